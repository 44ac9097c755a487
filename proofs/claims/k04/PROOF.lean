import PyProof.Rows.All
import Wide.All
import OpenK.AllK
import Wide.FinOn
import HandS.ForMost
import HandS.Deep
import HandS.Style
import HandS.TupAny
import HandS.TupMul
import HandS.SetFor
import HandS.Strs
import HandS.IsInst
import HandS.Zip
import HandS.Conv
import HandS.NoneIn
import HandS.Wide
import PyProof.Rows.RuleB_bool
import PyProof.P3In
import PyProof.SeqIndex
import KE.SortKeyHeap
import KE.KLam
import HandS.Lambda
import HandS.SortKw
import HandS.EndTab
import PySem.Challenge.RW_meshcore_k04_whole_hulls
set_option Elab.async false
set_option linter.all false
set_option maxRecDepth 100000
set_option maxHeartbeats 4000000
/-! ## R1 -/
/-! rules that the layer lacks: bool - bool; t[::-1]; in, not in a tuple of data; t.index; t * 1; set of a tuple of ints -/
namespace Hk
open PySem PySem.Spec PyProof.Rows L2
section
variable {X : Cx}
/-- bool - bool -/
def rSubB : R2 := fun x y H Q => ∃ a b : Bool, x = .bl a ∧ y = .bl b ∧ Q (.int (b2i a - b2i b)) H
theorem op_subB : OpR X (binaryOp .Sub) rSubB := by
  intro pins s σ H x y v u Q I rx ry h
  obtain ⟨a, b, rfl, rfl, q⟩ := h
  cases (show v = Value.bool a from rx)
  cases (show u = Value.bool b from ry)
  exact PyProof.Rows.sub_bool ⟨.int (b2i a - b2i b), H, I.tok _, ⟨_, rfl⟩, q⟩
/-- x in t, t a tuple of data -/
def rInTD (K : PySem.W.Frag) : R2 := fun x y H Q => ∃ d ds, Dp K H x d ∧ Dp K H y (.tuple ds) ∧ SeqAt.shaped d = true ∧ SeqAt.shaped (.tuple ds) = true ∧ Q (.bl (ds.any fun z => PyData.eqv z d)) H
def rNotInTD (K : PySem.W.Frag) : R2 := fun x y H Q => ∃ d ds, Dp K H x d ∧ Dp K H y (.tuple ds) ∧ SeqAt.shaped d = true ∧ SeqAt.shaped (.tuple ds) = true ∧ Q (.bl (!ds.any fun z => PyData.eqv z d)) H
theorem op_inTD (hu : X.A.units + 65 < cLine) : OpR X (compareOp .In) (rInTD X.K) := by
  intro pins s σ H x y v u Q I rx ry h
  obtain ⟨d, ds, hd, he, sd, se, q⟩ := h
  obtain ⟨as, r1⟩ := Dp.reads I d x v hd rx
  obtain ⟨bs, r2⟩ := Dp.reads I (.tuple ds) y u he ry
  exact SeqAt.in_tuple_reads r2 r1 (SeqAt.canLay_of_shaped se) (SeqAt.canLay_of_shaped sd) (room_in_shaped sd hu) ⟨.bl _, H, I, rfl, q⟩
theorem op_notInTD (hu : X.A.units + 65 < cLine) : OpR X (compareOp .NotIn) (rNotInTD X.K) := by
  intro pins s σ H x y v u Q I rx ry h
  obtain ⟨d, ds, hd, he, sd, se, q⟩ := h
  obtain ⟨as, r1⟩ := Dp.reads I d x v hd rx
  obtain ⟨bs, r2⟩ := Dp.reads I (.tuple ds) y u he ry
  exact SeqAt.notIn_tuple_reads r2 r1 (SeqAt.canLay_of_shaped se) (SeqAt.canLay_of_shaped sd) (room_in_shaped sd hu) ⟨.bl _, H, I, rfl, q⟩
/-- set(t), t a tuple of ints -/
def rSetTI (w : World) (K : PySem.W.Frag) : List V → Hp → VK → Prop := fun xs H Q => ∃ (p : Addr) (ns : List Int), xs = [.ref p] ∧ SqT K H p (ns.map V.int) ∧ ns.length ≤ 1000 ∧
  ∀ q c, H q = none → c ≤ ns.length → Q (.ref q) (upd H q (SetO w q (fun j => decide (j ∈ ns)) c))
theorem call_setTI (hc : X.calm = true) : CallR X (.type "set") (rSetTI X.w X.K) := by
  intro pins s σ H xs us Q I r h
  obtain ⟨p, ns, rfl, hq, hl, q⟩ := h
  cases r with
  | cons r rr =>
    cases rr
    cases r
    obtain ⟨its, rv, pt, hz⟩ := I.tuple hq
    have hi : IntsAre its.toArray.toList ns := ints_of_vals rv
    refine call_set_tupI ns (I.ok.hd hc) (show s.heap.IsTuple p its.toArray from pt) hi (by unfold scanBound; omega) fun h' tk c R1 hcn k => ?_
    exact ⟨.ref _, upd H s.heap.objs.size (SetO X.w s.heap.objs.size (fun j => decide (j ∈ ns)) c), I.laid (t' := tk) k (Nat.le_refl _) (setO_new R1), rfl, q _ c (I.hok.fresh (Nat.le_refl _)) hcn⟩
/-- t.index(x), t a tuple of data, x in it: the first place -/
def rIndexTD (K : PySem.W.Frag) : V → List V → Hp → VK → Prop := fun x xs H Q => ∃ (a : Addr) (y : V) (d : PyData) (ds : List PyData) (j : Nat) (z : PyData), x = V.ref a ∧ xs = [y] ∧ Dp K H (V.ref a) (.tuple ds) ∧ Dp K H y d ∧
  SeqAt.shaped (.tuple ds) = true ∧ SeqAt.shaped d = true ∧ ds[j]? = some z ∧ PyData.eqv z d = true ∧ (∀ (m : Nat) (z' : PyData), m < j → ds[m]? = some z' → PyData.eqv z' d = false) ∧ Q (.int (j : Nat)) H
theorem mt_indexTD (hu : X.A.units + 65 < cLine) : MtR X "tuple.index" (rIndexTD X.K) := by
  intro pins s σ H x xs v us Q I rx rxs h
  obtain ⟨a, y, d, ds, j, z, rfl, rfl, hl, hy, sl, sd, hz, hzj, hno, q⟩ := h
  cases rx
  cases rxs with
  | cons ry rt =>
    rename_i uy ut
    cases rt
    obtain ⟨bs, r1⟩ := Dp.reads I d y uy hy ry
    have hxs : PyData.canLayAll0 ds = true := SeqAt.canLay_of_shaped sl
    have hroom : X.A.units + 1 + min (PyData.depthAll ds) d.depth < cLine := room_in_shaped sd hu
    cases hl with
    | tup hs ha =>
      obtain ⟨its, rv, ⟨⟨cls, dd, data, sls⟩, ho, hc, n, hdt⟩, hlen⟩ := I.tuple hs
      simp only at hc hdt
      subst hc hdt
      obtain ⟨as, h4⟩ := Dp.readsAll I ds _ its ha rv
      have hn : its.length = ds.length := SeqAt.ReadsAll.length ds its as h4
      have hmap : its.map (SeqAt.readOf s.heap) = ds := SeqAt.readsAll_map ds its as hxs h4
      obtain ⟨hjd, _⟩ := List.getElem?_eq_some_iff.mp hz
      have hjl : j < its.length := by omega
      have hj : j < its.toArray.size := by simpa using hjl
      have at_ : ∀ (m : Nat) (hm : m < its.toArray.size), ds[m]? = some (SeqAt.readOf s.heap its.toArray[m]) := by
        intro m hm
        have hml : m < its.length := by simpa using hm
        rw [← hmap, List.getElem?_map, List.getElem?_eq_getElem hml]
        simp
      have hE := fun (p : Program) (w : World) => SeqAt.items_eqAt (prog := p) (w := w) (A := X.A) (vs := its.toArray) (show ReadsAll s.heap its.toArray.toList ds as from h4) r1 hxs (SeqAt.canLay_of_shaped sd) hroom
      refine call_meets PySem.F.slot_tuple_index ⟨_, ho, rfl⟩ PySem.F.entry_tuple_index (PySem.F.args_tuple_index_2 _ _)
        (SeqAt.tuple_index2_found a its.toArray n dd sls uy (fun m => match ds[m]? with | some z' => PyData.eqv z' d | none => false) j hj (Nat.zero_le _) hj ?_ ?_) ⟨ho, fun m hm => ?_, ?_⟩
      · show (match ds[j]? with | some z' => PyData.eqv z' d | none => false) = true
        rw [hz]
        exact hzj
      · intro m hm _ hmj
        show (match ds[m]? with | some z' => PyData.eqv z' d | none => false) = false
        rw [at_ m hm]
        exact hno m _ hmj (at_ m hm)
      · show SeqAt.EqAt _ _ _ _ (match ds[m]? with | some z' => PyData.eqv z' d | none => false)
        rw [at_ m hm]
        exact fun p w E Q => hE p w _ (Array.getElem_mem hm) E Q
      · exact ⟨.int (j : Nat), H, I.tok _, ⟨_, rfl⟩, q⟩
/-! t[::-1] -/
theorem rev_pick (xs : Array Value) : ((List.range xs.size).filterMap fun (k : Nat) => xs[((((xs.size : Nat) : Int) - 1) + (k : Int) * (-1)).toNat]?).toArray = xs.toList.reverse.toArray := by
  have h := PySem.W.krv_pick xs
  unfold slicePick at h
  rw [PySem.W.krv_bounds] at h
  have h2 : ((sliceRange ((xs.size : Int) - 1) (-1) (-1)).filterMap (xs[·]?)).toArray = xs.toList.reverse.toArray := h
  rw [PySem.W.krv_sliceRange, List.filterMap_map] at h2
  rw [← h2]
  have e : ∀ l : List Nat, (∀ k ∈ l, k < xs.size) → l.filterMap (fun (k : Nat) => xs[((((xs.size : Nat) : Int) - 1) + (k : Int) * (-1)).toNat]?) = l.filterMap ((fun x => xs[x]?) ∘ fun k => xs.size - 1 - k) := by
    intro l
    induction l with
    | nil => intro _; rfl
    | cons k r ih =>
      intro hl
      have hk := hl k (by simp)
      have ek : ((((xs.size : Nat) : Int) - 1) + (k : Int) * (-1)).toNat = xs.size - 1 - k := by omega
      rw [List.filterMap_cons, List.filterMap_cons, ih fun j hj => hl j (List.mem_cons_of_mem _ hj), ek]
      rfl
  rw [e _ fun k hk => List.mem_range.mp hk]
theorem rev_places (n : Nat) : Builtin.Slice.slicePlaces ((n : Int) - 1) (-1) (-1) = n := by
  unfold Builtin.Slice.slicePlaces
  have h1 : ¬ ((-1 : Int) > 0) := by decide
  rw [if_neg h1]
  by_cases h : (n : Int) - 1 > -1
  · rw [if_pos h]
    have e : ((n : Int) - 1 - -1 - 1) / (- -1) + 1 = (n : Int) := by
      rw [show (- -1 : Int) = 1 by decide, Int.ediv_one]
      omega
    rw [e]; rfl
  · rw [if_neg h]
    omega
theorem sliceApplied_rev {prog : Program} {w : World} {A : Around} {E : Value → Shared → Prop} {s : Shared} {sl : Addr} {vl vu vs : Value} {n : Nat} {Q : Int × Int × Nat → Shared → Prop} (hs : s.heap.IsSliceOf sl vl vu vs) (pl : IsPart vl none) (pu : IsPart vu none) (ps : IsPart vs (some (-1)))
    (h : Q ((n : Int) - 1, -1, n) s) : wpAny (model prog w) A (Builtin.Slice.sliceApplied (.ref sl) (pure (n : Int))) Q E s := by
  obtain ⟨os, hos, hcs, hds⟩ := id hs
  unfold Builtin.Slice.sliceApplied Builtin.Slice.sliceFields
  refine wpAny_bind (wpAny_bind (wpAny_field hos hds (x := vl) rfl (wpAny_bind (wpAny_field hos hds (x := vu) rfl (wpAny_bind (wpAny_field hos hds (x := vs) rfl (wpAny_pure ?_)))))))
  refine wpAny_bind (HT.slicePart_ ps ?_)
  show wpAny _ _ (if ((-1 : Int) == 0) = true then _ else _) _ _ s
  rw [if_neg (by decide)]
  refine wpAny_bind (HT.slicePart_ pl (wpAny_bind (HT.slicePart_ pu (wpAny_bind (wpAny_pure ?_)))))
  show wpAny _ _ (match Builtin.Slice.sliceAdjust none none (-1) (n : Int) with | (lo, hi) => pure (lo, (-1 : Int), Builtin.Slice.slicePlaces lo hi (-1))) _ _ s
  have e : Builtin.Slice.sliceAdjust none none (-1) (n : Int) = ((n : Int) - 1, -1) := rfl
  rw [e]
  show wpAny _ _ (pure ((n : Int) - 1, (-1 : Int), Builtin.Slice.slicePlaces ((n : Int) - 1) (-1) (-1))) _ _ s
  rw [rev_places]
  exact wpAny_pure h
theorem getItem_tuple_rev {prog : Program} {w : World} {A : Around} {E : Value → Shared → Prop} {s : Shared} {t sl : Addr} {items : Array Value} {vl vu vs : Value} {Q : Value → Shared → Prop} (ht : IsTup s.heap t items) (hs : s.heap.IsSliceOf sl vl vu vs) (pl : IsPart vl none) (pu : IsPart vu none) (ps : IsPart vs (some (-1)))
    (h : Q (.ref s.heap.objs.size) { s with heap := s.heap.push { cls := .type "tuple", data := .seq items.toList.reverse.toArray } })
    (hsz : items.size ≤ sizeLine) : wpAny (model prog w) A (getItem (.ref t) (.ref sl)) Q E s := by
  have htake : sizeOk (.seq items.toList.reverse.toArray) := by
    show items.toList.reverse.toArray.size ≤ sizeLine
    rw [List.size_toArray, List.length_reverse, Array.length_toList]
    exact hsz
  obtain ⟨os, hos, hcs, hds⟩ := id hs
  have hTs : s.TypeIs (.ref sl) "slice" := ⟨os, hos, hcs⟩
  unfold getItem
  try with_reducible refine wpAny_holding ?_
  first | refine wpAny_bind (wpAny_pure ?_) | skip
  refine wpAny_bind (wpAny_sequenceKey ht.typeIs (by decide) ?_)
  refine wpAny_bind (wpAny_callSpecial?_slot (name := Str.ofString "__getitem__") ht.typeIs PyProof.Rows.slot_tuple_getitem
    (wpAny_call_entry PyProof.Rows.slot_tuple_getitem ht.typeIs entry_tuple_getitem ?_ (args_tuple_getitem _ _)))
  show wpAny _ _ (Builtin.Tuple.tupleItemsOf (.ref t) >>= _) _ _ s
  refine wpAny_bind (tupleItemsOf_ ht ?_)
  refine wpAny_bind (wpAny_typeOf hTs ?_)
  rw [if_pos (by decide)]
  refine wpAny_bind (sliceApplied_rev hs pl pu ps ?_)
  have hno : ¬ ((((items.size : Nat) : Int) - 1 == 0 && (-1 : Int) == 1 && items.size == items.size) = true) := by
    intro q
    rw [Bool.and_eq_true, Bool.and_eq_true] at q
    have q1 := q.1.2
    revert q1
    decide
  show wpAny _ _ (if (((items.size : Nat) : Int) - 1 == 0 && (-1 : Int) == 1 && items.size == items.size) = true then _ else _) _ _ s
  rw [if_neg hno, rev_pick]
  first
    | exact wpAny_bind (m := Builtin.Tuple.tupleExact _) (wpAny_newObj_type (wpAny_pure ⟨_, rfl, wpAny_pure h⟩) htake)
    | exact wpAny_bind (m := Builtin.Tuple.tupleExact _) (wpAny_newObj_type (wpAny_bind (wpAny_pure (wpAny_pure ⟨_, rfl, wpAny_pure h⟩))) htake)
    | exact wpAny_bind (wpAny_bind (m := Builtin.Tuple.tupleExact _) (wpAny_newObj_type (wpAny_pure (wpAny_pure ⟨_, rfl, wpAny_pure h⟩)) htake))
    | exact wpAny_bind (wpAny_bind (m := Builtin.Tuple.tupleExact _) (wpAny_newObj_type (wpAny_pure ⟨_, rfl, wpAny_pure h⟩) htake))
def tRevT (K : PySem.W.Frag) (te : TE) : TE := fun σ H Q => te σ H fun x H1 => ∃ a xs, x = .ref a ∧ SqT K H1 a xs ∧ ∀ p, H1 p = none → Q (.ref p) (upd H1 p (.tup xs.reverse))
theorem pe_revT {e : Expr} {te : TE} {k : Nat} {p1 p2 p3 pos : Pos} (he : PE X e te) : PE X (.Subscript e (.Slice none none (some (.UnaryOp .USub (.Constant (.int 1) k p1) p2)) p3) pos) (tRevT X.K te) := by
  refine ⟨fun pins s σ H Q I h => ?_⟩
  refine Subscript_ (thn (he.run pins s σ H _ I h) fun v s1 ⟨x, H1, I1, r1, q1⟩ => ?_)
  obtain ⟨a, xs, ex, hx, q⟩ := q1
  subst ex
  cases r1
  have hst : PO X (some (.UnaryOp .USub (.Constant (.int 1) k p1) p2)) (tPart (tUn (rU fun i => .int (-i)) (tC (.int 1)))) := po_some (pe_un un_neg pe_int)
  refine wpAny_Slice (thn (po_none.run pins s1 σ H1 (fun o H2 => o = none ∧ H2 = H1) I1 ⟨rfl, rfl⟩) fun vl s2 ⟨l, H2, I2, pl, el, e2⟩ => ?_)
  subst el e2
  refine thn (po_none.run pins s2 σ H2 (fun o H3 => o = none ∧ H3 = H2) I2 ⟨rfl, rfl⟩) fun vu s3 ⟨u, H3, I3, pu, eu, e3⟩ => ?_
  subst eu e3
  refine thn (hst.run pins s3 σ H3 (fun o H4 => o = some (-1) ∧ H4 = H3) I3 ⟨1, rfl, -1, rfl, rfl, rfl⟩) fun vs s4 ⟨o, H4, I4, ps, eo, e4⟩ => ?_
  subst eo e4
  have I5 : Inv X pins σ H4 { s4 with heap := s4.heap.push { cls := .type "slice", data := .fields #[vl, vu, vs] } } := I4.kept (t' := s4.toks) fun b ob q => Heap.get?_push_of_some _ q
  obtain ⟨its, r, ht, hz⟩ := I5.tuple hx
  have hlen := r.length
  show wpAny (model X.prog X.w) X.A (subscriptTail e (.Slice none none (some (.UnaryOp .USub (.Constant (.int 1) k p1) p2)) p3) (.ref a) (.ref s4.heap.objs.size)) (EP X pins σ Q) X.xe { s4 with heap := s4.heap.push { cls := .type "slice", data := .fields #[vl, vu, vs] } }
  refine tail_any (ops := [.ref a, .ref s4.heap.objs.size]) ht.typeIs (PyProof.Rows.slot_tuple_getitem.lookup) ?_ (by with_unfolding_all rfl)
  refine getItem_tuple_rev ht (Heap.IsSliceOf.new _ vl vu vs) pl pu ps ?_ (by rw [List.size_toArray]; omega)
  refine ⟨.ref _, _, I5.laid (t' := s4.toks) (o := .tup xs.reverse) (fun b ob q => Heap.get?_push_of_some _ q) (Nat.le_refl _) ?_, rfl, q _ (I5.hok.fresh (Nat.le_refl _))⟩
  exact ⟨by rw [List.length_reverse]; exact hz, _, r.reverse, IsTup.new _ _⟩
end
end Hk
/-! ## R2 -/
namespace Hk
open PySem PySem.Spec PyProof.Rows L2
/-- t * 1 is t -/
theorem tuple_mul1 (l : Addr) (items : Array Value) (n : Nat) (dd : Option Addr) (sl : Array (Option Value)) (u : Tok) :
    Meets (Builtin.«tuple.__mul__» ⟨[.ref l, .int 1 u], []⟩) (fun _ R s => s.heap.get? l = some { cls := .type "tuple", dict := dd, data := .seq items n, slots := sl } ∧ R (.ok (.ret (Value.ref l))) s) :=
  .of_wp fun prog w A R s h => by
    obtain ⟨hp, g, d, tk, os⟩ := s
    obtain ⟨hl, h⟩ := h
    have f1 := AutoSeq1.idx_int
    have c1 : (items.isEmpty || (1 : Int) == 1) = true := by rw [Bool.or_eq_true]; exact .inr rfl
    wp_walk using wpAny_loadPart' hl
    repeat (first
      | (refine wpAny_ite_true (decide_eq_true c1) ?_; wp_walk using wpAny_loadPart' hl)
      | (refine wpAny_ite_false (decide_eq_false (by decide)) ?_; wp_walk using wpAny_loadPart' hl))
    exact ⟨_, rfl, h⟩
/-- t * 1, t * 2 -/
def rRepT1 (K : PySem.W.Frag) : R2 := fun x y H Q => ∃ l k xs, x = .ref l ∧ y = .int k ∧ SqT K H l xs ∧ xs ≠ [] ∧ xs.length ≤ 1000 ∧ ((k = 1 ∧ Q (.ref l) H) ∨ (2 ≤ k ∧ k ≤ 1000 ∧ ∀ p, H p = none → Q (.ref p) (upd H p (.tup (List.replicate k.toNat xs).flatten))))
section
variable {X : Cx}
theorem op_repT1 : OpR X (binaryOp .Mult) (rRepT1 X.K) := by
  intro pins s σ H x y v u Q I rx ry h
  obtain ⟨l, k, xs, rfl, rfl, hT, hne, hz, hk⟩ := h
  rcases hk with ⟨rfl, q⟩ | ⟨h1, h2, q⟩
  · cases rx
    obtain ⟨t, rfl⟩ := ry
    obtain ⟨its, r, ⟨⟨cls, dd, data, sl⟩, ho, hc, n, hd⟩, hs⟩ := I.tuple hT
    simp only at hc hd
    subst hc hd
    exact wpAny_binaryOp_repeat_ref (T := "tuple") (U := "int") (by decide) ⟨_, ho, rfl⟩ (fun s' => typeIs_int s' 1 t) noFill_tuple_mul F.fills_int_mul F.slot_int_rmul repeat_tuple F.slot_int_index.lookup
      (call_meets F.slot_int_rmul (typeIs_int s 1 t) F.entry_int_rmul (F.args_int_rmul_2 _ _) (int_rmul_tuple 1 t l its.toArray n dd sl)
        ⟨ho, rfl, ⟨_, ho, rfl⟩, call_meets F.slot_tuple_mul ⟨_, ho, rfl⟩ F.entry_tuple_mul (F.args_tuple_mul_2 _ _) (tuple_mul1 l its.toArray n dd sl t) ⟨ho, .ref l, H, I, rfl, q⟩⟩)
  · exact op_repT pins s σ H _ _ v u Q I rx ry ⟨l, k, xs, rfl, rfl, hT, hne, h1, h2, hz, q⟩
end
end Hk
/-! ## R3 -/
/-! sorted(range(n), key=lambda at: pairs[at]) -/
namespace Hk
open PySem PySem.Spec PySem.W PyProof.Rows L2
section
variable {prog : Program} {w : World} {A : Around} {E : Value → Shared → Prop} {s : Shared}
/-- the key called: the item of the captured list -/
theorem lam_call {qual : Str} {params : Arguments} {p1 p2 p3 : Pos} {scope : Scope} {cl : List (Str × Addr)} {pm ctv v : Value} {f c c' L : Addr} {j : Int} {t : Tok} {items : Array Value} {xl xp : Str}
    (of : s.heap.get? f = some (kla_obj "<lambda>" qual params (.Subscript (.Name xl p1) (.Name xp p2) p3) scope cl pm c' ctv))
    (hroom : A.depth < recursionLimit) (hcd : s.heap.CodeRec (.ref c') qual) (lim : s.heap.NoLimit)
    (hbind : ∀ v : Value, bindArgs (kla_fn "<lambda>" qual params (.Subscript (.Name xl p1) (.Name xp p2) p3) scope cl pm (.ref c') ctv) ⟨[v], []⟩ = pure [(xp, v)])
    (hk : scope.kind = .function) (hco : scope.isCoroutine = false) (hgen : scope.isGenerator = false) (hcell : ∀ x ∈ scope.names, x.2 ≠ .cell) (hp : scope.names.lookup xp = some .local) (hl : scope.names.lookup xl = some .free)
    (hc : cl.lookup xl = some c) (hcv : s.heap.IsCell c (some (.ref L))) (hL : s.heap.IsList L items) (h0 : 0 ≤ j) (hfit : j < 2 ^ 63) (hx : items[j.toNat]? = some v)
    (hd1 : (xl == ("__debug__" : Str)) = false) (hd2 : (xp == ("__debug__" : Str)) = false) (hd3 : (xl == ("__classdict__" : Str)) = false) :
    wpAny (model prog w) A (call (.ref f) [.int j t]) (fun u s2 => u = v ∧ ∃ h' tk, s2 = { s with heap := h', toks := tk } ∧ ∀ b o, s.heap.get? b = some o → h'.get? b = some o) E s := by
  refine wpAny_call ?_
  refine kla_callFunE hroom of rfl hco hgen rfl hcd ?_
  rw [hbind]
  refine wpAny_pure (wpAny_newFunctionEnv hcell (fun x hx => by
    rcases List.mem_cons.mp hx with rfl | hx
    · exact hp
    · cases hx) (fun h1 hns hsb => ⟨lim.fresh _ hsb, ?_⟩) hk)
  have kp : ∀ b o, s.heap.get? b = some o → h1.get? b = some o := fun b o e => hsb.extBut b o (Nat.ne_of_lt (Heap.lt_size e)) (Heap.get?_push_of_some _ e)
  refine kla_codeExpr ?_
  refine wpAny_mono (Q := fun u s2 => u = v ∧ s2 = { s with heap := h1, toks := s.toks + 1 }) (E := fun _ _ => False) (Subscript_ ?_) (fun u s2 hq => ⟨hq.1, h1, s.toks + 1, hq.2, kp⟩) (fun _ _ hf => hf.elim)
  have hcv1 : h1.IsCell c (some (.ref L)) := by
    obtain ⟨o, ho, hd⟩ := hcv
    exact ⟨o, kp _ _ ho, hd⟩
  have hL1 : h1.IsList L items := by
    obtain ⟨o, ho, r⟩ := hL
    exact ⟨o, kp _ _ ho, r⟩
  refine wpAny_Name (wpAny_loadName_free hk hl hc hcv1 ?_ hd3) hd1
  refine wpAny_Name (wpAny_loadName_local hk hp hns (v := .int j t) ?_ ?_) hd2
  · simp
  · exact item_listR hL1 h0 hfit hx ⟨rfl, rfl⟩ (by with_unfolding_all rfl)
/-- what the items of a range are -/
theorem items_each {n : Nat} {acc : Array Value} (hi : ItemsOf (fun i v => ∃ t, v = .int ((0 : Int) + (i : Int) * 1) t) acc n) : EachIs (fun (v : Value) (j : Nat) => ∃ t, v = .int (j : Int) t) acc.toList (List.range n) := by
  have key : ∀ (l : List Value) (k : Nat), (∀ i v, l[i]? = some v → ∃ t, v = Value.int ((k + i : Nat) : Int) t) → EachIs (fun (v : Value) (j : Nat) => ∃ t, v = .int (j : Int) t) l (List.range' k l.length) := by
    intro l
    induction l with
    | nil => intro k _; exact .nil
    | cons v r ih =>
      intro k hk
      refine .cons ?_ (ih (k + 1) fun i u hu => ?_)
      · obtain ⟨t, e⟩ := hk 0 v rfl
        exact ⟨t, by simpa using e⟩
      · obtain ⟨t, e⟩ := hk (i + 1) u (by simpa using hu)
        exact ⟨t, by rw [e]; congr 2; omega⟩
  have h1 := key acc.toList 0 fun i v hv => by
    obtain ⟨t, e⟩ := hi.2 i v (by rw [← Array.getElem?_toList]; exact hv)
    exact ⟨t, by rw [e]; congr 1; omega⟩
  have e : acc.toList.length = n := by rw [Array.length_toList]; exact hi.1
  rw [e, ← List.range_eq_range'] at h1
  exact h1
abbrev kyD (ks : Nat → Int × Int) (j : Nat) : PyData := .tuple [.int (ks j).1, .int (ks j).2]
abbrev kyLe (ks : Nat → Int × Int) (i j : Nat) : Bool := decide ((ks i).1 < (ks j).1 ∨ ((ks i).1 = (ks j).1 ∧ (ks i).2 ≤ (ks j).2))
theorem sorted_range_key {r f : Addr} {n : Nat} {t u v : Tok} {Q : Value → Shared → Prop} (ks : Nat → Int × Int) (hh : A.handled = none) (hr : IsRange s.heap r 0 (n : Int) 1 t u v) (hn : n ≤ 1000) (hu : A.units + 66 < cLine)
    (turn : ∀ (j : Nat) (tj : Tok), j < n → ∀ (h : Heap) (tk : Nat), (∀ b o, s.heap.get? b = some o → h.get? b = some o) →
      wpAny (model prog w) A.in1.in1 (call (.ref f) [.int (j : Int) tj]) (KeyPure (kyD ks j) { s with heap := h, toks := tk }) (fun _ _ => False) { s with heap := h, toks := tk })
    (h : ∀ (out : List Value) (h0 : Heap) (c : Nat) (h' : Heap) (tk : Nat), (∀ b o, s.heap.get? b = some o → h0.get? b = some o) → (∀ b o, h0.get? b = some o → h'.get? b = some o) → h'.get? h0.objs.size = some (seqObj "list" (List.toArray out) c) →
      EachIs (fun (v : Value) (j : Nat) => ∃ t, v = .int (j : Int) t) out ((List.range n).mergeSort (kyLe ks)) → Q (.ref h0.objs.size) { s with heap := h', toks := tk }) :
    wpAny (model prog w) A (call (.builtin "sorted") [.ref r] [(Str.ofString "key", .ref f)]) Q E s := by
  refine call_function_entry_kw kind_sorted plain_sorted entry_sorted (ksk_s1 _ _) ?_
  unfold Builtin.«sorted»
  refine wpAny_bind (m := checkCount "sorted" 1 1 _) (wpAny_pure ?_)
  refine wpAny_bind (collect_range (n := n) hh hr (small_one (by omega) (by omega) (by omega) (by omega)) (by have := rangeSize_nat 0 (n : Int); simpa using this) (by omega) fun h0 tk0 acc hk0 hi => ?_)
  have he := items_each hi
  have hlen : acc.toList.length = n := by rw [Array.length_toList]; exact hi.1
  have hz : acc.toList.length ≤ sizeLine := by rw [hlen, sizeLine_eq]; omega
  refine wpAny_bind (wpAny_newList ?_ hz)
  have hoL : (h0.push (seqObj "list" acc.toList.toArray 0)).get? h0.objs.size = some (seqObj "list" acc.toList.toArray 0) := Heap.get?_push_size _ rfl
  have up : ∀ {g : Heap}, KeepsBut h0.objs.size (h0.push (seqObj "list" acc.toList.toArray 0)) g → ∀ b o, s.heap.get? b = some o → g.get? b = some o := fun {g} kp b o q =>
    kp b o (Nat.ne_of_lt (Heap.lt_size (hk0 _ _ q))) (Heap.get?_push_of_some _ (hk0 _ _ q))
  refine wpAny_bind (wpAny_holding (wpAny_call_entry_kw slot_list_sort ⟨_, hoL, rfl⟩ entry_list_sort ?body (ksk_l1 _ _)))
  case body =>
    rw [ksk_t1]
    have hal : AllAlike ((List.range n).map (kyD ks)) := AllAlike.of fun _ _ => by simp [kyD, alike, alikeAll]
    have hsk : Sortable ((List.range n).map (kyD ks)) := Sortable.tuples fun _ => ⟨_, _, rfl⟩
    refine keyH_tree (kz := (List.range n).map (kyD ks)) (vs := acc.toList) (s := { s with heap := h0.push (seqObj "list" acc.toList.toArray 0), toks := tk0 }) hoL (by rw [List.length_map, List.length_range, hlen]) hz hal hsk
      (bound_map (A := A.in1.in1) fun j _ => by
        have hd : (kyD ks j).depth = 1 := by simp [kyD, PyData.depth, PyData.depthAll]
        rw [hd]
        show A.units + 1 + 1 + 1 < cLine
        omega)
      (keyH_turns (s := { s with heap := h0.push (seqObj "list" acc.toList.toArray 0), toks := tk0 }) he fun v j hR hx g tk kp => ?_) fun h' tk out c kp hD ko => ?_
    · obtain ⟨tj, rfl⟩ := hR
      exact turn j tj (List.mem_range.mp hx) g tk (up kp)
    · refine ⟨_, rfl, wpAny_pure ⟨_, rfl, ?_⟩⟩
      have eo := keyedOut_each (kyD ks) ko he
      rw [dataLe_ii (β := Nat) (fun j => (ks j).1) (fun j => (ks j).2)] at eo
      exact h out h0 c h' tk hk0 (fun b o q => kp b o (Nat.ne_of_lt (Heap.lt_size q)) (Heap.get?_push_of_some _ q)) hD eo
end
section
variable {X : Cx}
theorem cr_range1 : CallR X (.type "range") (fun vs H Q => ∃ j, vs = [V.int j] ∧ ∀ p, H p = none → Q (.ref p) (upd H p (.rng 0 j))) := by
  intro pins s σ H vs us Q I r h
  obtain ⟨j, rfl, q⟩ := h
  obtain ⟨u1, rfl, rj⟩ := vals1 r
  obtain ⟨u, rfl⟩ := rj
  refine call_range_1 ⟨.ref s.heap.objs.size, upd H s.heap.objs.size (.rng 0 j), I.laid (t' := _) (fun b o e => Heap.get?_push_of_some _ e) (Nat.le_refl _) ?_, rfl, q _ (I.hok.fresh (Nat.le_refl _))⟩
  exact ⟨_, u, _, Heap.get?_push_size _ rfl⟩
/-- sorted(r, key=lambda at: pairs[at]), r = range(n), pairs in slot i -/
def tSortLam (T : List (Addr × Str)) (K : PySem.W.Frag) (i : Nat) (te : TE) : TE := fun σ H Q => te σ H fun x H1 => ∃ (r : Addr) (n : Nat) (L : Addr) (ts : List Addr) (ks : Nat → Int × Int),
  x = .ref r ∧ H1 r = some (.rng 0 (n : Int)) ∧ n ≤ 1000 ∧ LamX.Tabs T H1 ∧ σ[i]? = some (some (.ref L)) ∧ SqL K H1 L (ts.map V.ref) ∧ ts.length = n ∧ (∀ j t, ts[j]? = some t → Rd H1 t (.tup [.int (ks j).1, .int (ks j).2])) ∧
  ∀ H2 p, LamX.ExtN H1 H2 → LamX.Tabs T H2 → H2 p = none → Q (.ref p) (upd H2 p (.lst (((List.range n).mergeSort (kyLe ks)).map fun (j : Nat) => V.int (j : Int))))
theorem vals_each : ∀ {out : List Value} {js : List Nat}, EachIs (fun (v : Value) (j : Nat) => ∃ t, v = .int (j : Int) t) out js → Vals (js.map fun (j : Nat) => V.int (j : Int)) out
  | _, _, .nil => .nil
  | _, _, .cons h r => .cons (by obtain ⟨t, e⟩ := h; exact ⟨t, e⟩) (vals_each r)
theorem pe_sortedLam {T : List (Addr × Str)} {e : Expr} {te : TE} {params : Arguments} {p p1 p2 p3 lpos kpos pos : Pos} {scope : Scope} {xl xp : Str} {i k : Nat} {c P : Addr}
    (hg : Gl X "sorted") (hm : X.mg "sorted" = none) (he : PE X e te) (TB : LamX.TabB X.base X.mg c P) (hcode : X.env.code = .ref c) (hmT : (P, X.env.qual ++ "<lambda>") ∈ T) (hu : ∀ q ∈ T, q.1 = P → q.2 = X.env.qual ++ "<lambda>")
    (hr : Room (k + 3) X.A) (hdef : defaultsOf params X.env = ([], []))
    (hbind : ∀ (q : Str) (cl : List (Str × Addr)) (pm cv ctv v : Value), bindArgs (kla_fn "<lambda>" q params (.Subscript (.Name xl p1) (.Name xp p2) p3) scope cl pm cv ctv) ⟨[v], []⟩ = pure [(xp, v)])
    (hk : scope.kind = .function) (hco : scope.isCoroutine = false) (hgen : scope.isGenerator = false) (hcell : ∀ x ∈ scope.names, x.2 ≠ .cell) (hp : scope.names.lookup xp = some .local) (hl : scope.names.lookup xl = some .free)
    (hfr : ∀ y ∈ scope.names, y.2 = .free → y.1 = xl) (hX : X.env.scope.names.lookup xl = some .cell) (hN : X.N[i]? = some xl)
    (hd1 : (xl == ("__debug__" : Str)) = false) (hd2 : (xp == ("__debug__" : Str)) = false) (hd3 : (xl == ("__classdict__" : Str)) = false)
    (hsx : starEach [e] X.env = (false, eval e X.env) :: starEach [] X.env := by rfl) (hst : backTo pos (starEach [e] X.env) = (false, eval e X.env) :: backTo pos (starEach [] X.env) := by rfl) (hpl : (backTo pos (starEach [e] X.env)).any (·.1) = false := by rfl) :
    PE X (.Call (.Name "sorted" p) [e] [⟨some "key", .Lambda params (.Subscript (.Name xl p1) (.Name xp p2) p3) scope lpos, kpos⟩] pos) (tSortLam T X.K i te) := by
  refine ⟨fun pins s σ H Q I h => ?_⟩
  have hfree : ∀ y ∈ scope.names, y.2 = .free → ∃ c, X.env.cells.lookup y.1 = some c := fun y hy ef => by
    rw [hfr y hy ef]
    exact I.ok.has xl (.inl hX)
  refine wpAny_Call_Name_kw (ld_blt (u := .builtin "sorted") I hg hm (by decide +kernel) ?_)
  refine PyProof.Rows.callWith_kw ?_ hst hpl
  rw [hst]
  refine Calls.spliced_cons (thn (he.run pins s σ H _ I h) fun u1 s1 ⟨x, H1, I1, rx, q1⟩ => ?_)
  refine Calls.spliced_nil ?_
  obtain ⟨r, n, L, ts, ks, rfl, hrg, hn, hT, hσ, hL, hlen, hts, q⟩ := q1
  cases rx
  show wpAny _ _ (evalAll ((do let v ← eval (.Lambda params (.Subscript (.Name xl p1) (.Name xp p2) p3) scope lpos) X.env; standAt pos; pure v) :: [])) _ _ s1
  refine wpAny_evalAll_cons (wpAny_bind (LamX.lam_make2 I1 TB hcode hmT hu hT hdef hfree fun f c' pm' ctv H2 s2 I2 eN T2 hf hfn hffr hco2 => ?_))
  refine wpAny_bind (wpAny_standAt (wpAny_pure (wpAny_evalAll_nil ?_)))
  show wpAny (model X.prog X.w) X.A (call (.builtin "sorted") [.ref r] [(Str.ofString "key", .ref f)]) (EP X pins σ Q) X.xe s2
  -- the captured cell
  obtain ⟨m, hn2, hlk⟩ := I2.loc
  obtain ⟨uL, rL, lk⟩ := hlk i xl (.ref L) hN hσ (.inr (.inl hX))
  cases rL
  obtain ⟨cc, hcc, hcell2⟩ : ∃ cc, X.env.cells.lookup xl = some cc ∧ s2.heap.IsCell cc (some (.ref L)) := by
    rcases lk with ⟨hkk, _⟩ | ⟨_, cc, e1, e2⟩
    · have hkk' : X.env.scope.names.lookup xl = some .local := hkk
      rw [hX] at hkk'
      cases hkk'
    · exact ⟨cc, e1, e2⟩
  have hcl : (cloFrom X.env.cells scope.names []).lookup xl = some cc := by
    have hy : (xl, NameKind.free) ∈ scope.names := PySem.mem_of_lookup hl
    obtain ⟨c0, h0⟩ := mem_lookup (cloFrom_has (cells := X.env.cells) (acc := []) hy)
    rcases cloFrom_mem (PySem.mem_of_lookup h0) with hm2 | ⟨_, e2⟩
    · cases hm2
    · rw [h0, e2, hcc]; rfl
  -- objects
  obtain ⟨t1, t2, t3, hro⟩ := I2.hok r _ (eN r _ hrg (by intro ps z; cases z))
  have hL2 : SqL X.K H2 L (ts.map V.ref) := by
    rcases hL with (h1 | ⟨o, h1⟩) | h1
    · exact .inl (.inl (eN _ _ h1 (by intro ps z; cases z)))
    · exact .inl (.inr ⟨o, eN _ _ h1 (by intro ps z; cases z)⟩)
    · exact .inr h1
  obtain ⟨its, rv, plL, _⟩ := I2.list hL2
  obtain ⟨⟨oc, vs, tq, hoc, hdc, hvc⟩, _, _⟩ := I2.hok c' _ hco2
  have hr2 : Room k X.A.in1.in1 := hr.mono (Nat.le_succ _) |>.in1.in1
  refine sorted_range_key ks hr.hd hro hn (by have := hr.un; omega) (fun j tj hj g tk kp => ?_) fun out h0 cn h' tk k1 k2 hD eo => ?_
  · obtain ⟨tt, htt⟩ : ∃ tt, ts[j]? = some tt := ⟨ts[j]'(by omega), List.getElem?_eq_getElem _⟩
    have hmap : (ts.map V.ref)[j]? = some (.ref tt) := by rw [List.getElem?_map, htt]; rfl
    obtain ⟨ut, hut, rt⟩ := rv.get hmap
    cases rt
    refine wpAny_mono (lam_call (s := { s2 with heap := g, toks := tk }) (qual := X.env.qual ++ "<lambda>") (v := .ref tt) (items := its.toArray) (L := L) (c := cc) (kp _ _ hf) hr2.depth ⟨c', oc, vs, tq, rfl, kp _ _ hoc, hdc, hvc⟩ (I2.nolimit.keeps kp) (fun v => hbind _ _ _ _ _ v) hk hco hgen hcell hp hl hcl
      (by obtain ⟨o, ho, hd⟩ := hcell2; exact ⟨o, kp _ _ ho, hd⟩) (by obtain ⟨o, ho, hr'⟩ := plL.isList; exact ⟨o, kp _ _ ho, hr'⟩) (Int.natCast_nonneg j) (by omega) (by simpa using hut) hd1 hd2 hd3) (fun v2 s3 hq => ?_) fun _ _ hE => hE
    obtain ⟨rfl, h3, tk3, rfl, k3⟩ := hq
    refine ⟨h3, tk3, rfl, k3, ?_⟩
    have htr : Rd H2 tt (.tup [.int (ks j).1, .int (ks j).2]) := by
      rcases hts j tt htt with h | ⟨ob, h⟩
      · exact .inl (eN tt _ h (by intro ps z; cases z))
      · exact .inr ⟨ob, eN tt _ h (by intro ps z; cases z)⟩
    obtain ⟨_, its2, rv2, o2, ho2, hc2, n2, hd2'⟩ := htr.ok I2.hok
    obtain ⟨w1, w2, rfl, ⟨a1, rfl⟩, ⟨a2, rfl⟩⟩ := vals2 rv2
    exact Reads.tuple (k3 _ _ (kp _ _ ho2)) hc2 hd2' (ReadsAll.cons (Reads.int _ _) (ReadsAll.cons (Reads.int _ _) ReadsAll.nil))
  · have I3 : Inv X pins σ H2 { s2 with heap := h0, toks := tk } := I2.kept k1
    refine ⟨.ref h0.objs.size, upd H2 h0.objs.size (.lst (((List.range n).mergeSort (kyLe ks)).map fun (j : Nat) => V.int (j : Int))), I3.laid (t' := tk) k2 (Nat.le_refl _) ⟨?_, out, cn, vals_each eo, hD⟩, rfl, q H2 _ eN T2 (I3.hok.fresh (Nat.le_refl _))⟩
    rw [List.length_map, List.length_mergeSort, List.length_range, sizeLine_eq]
    omega
end
end Hk
/-! ## E1 -/
/-! what a reading gives, in a world of places that may change -/
namespace Hk
open PySem PySem.Spec PyProof.Rows L2

/-! ### // by any divisor of some size -/
def CDivA (_ j : Int) : Prop := j ≠ 0 ∧ j.natAbs.log2 < 9000
theorem op_fdivA {X : Cx} : OpR X (binaryOp .FloorDiv) (rI CDivA fun i j => .int (i.fdiv j)) := opI fun i j _ _ _ _ _ hc q =>
  floordiv_int hc.1 q (.inl (PyProof.noPylong_of_log2 hc.2))

/-! ### worlds -/
structure Wd where
  S : Addr → Prop
  W : Hp → Prop
  live : ∀ {H a}, W H → S a → H a ≠ none
  keep : ∀ {H H'}, W H → (∀ a o, (S a ∨ ∃ φ, o = .ext φ) → H a = some o → H' a = some o) → W H'
/-- the world where nothing changes -/
def W0 : Wd := ⟨fun _ => False, fun _ => True, fun _ h => h.elim, fun _ _ => trivial⟩

/-- the heap grew: what stood stands, but for the places of S and tables of code -/
structure Xt (Z : Wd) (H H' : Hp) : Prop where
  w1 : Z.W H
  w2 : Z.W H'
  kq : ∀ a o, ¬ Z.S a → (∀ ps, o ≠ .tbl ps) → H a = some o → H' a = some o
/-- a tuple, as it stands or with its object told -/
structure RdT (H : Hp) (a : Addr) (xs : List V) : Prop where
  h : Rd H a (.tup xs)
/-- free, but for a table -/
def Fr (H : Hp) (p : Addr) : Prop := ∀ o, H p = some o → ∃ ps, o = .tbl ps
section
variable {Z : Wd} {H H' H1 H2 : Hp} {p l : Addr} {o : HO}
theorem Fr.of (h : H p = none) : Fr H p := fun o e => by rw [h] at e; cases e
theorem Xt.kp (e : Xt Z H H') (a : Addr) (o : HO) (n : ¬ Z.S a) (h : H a = some o) (t : ∀ ps, o ≠ .tbl ps := by (intro _ z; cases z)) : H' a = some o := e.kq a o n t h
theorem Xt.rd {xs : List V} {a : Addr} (e : Xt Z H H') (n : ¬ Z.S a) (h : RdT H a xs) : RdT H' a xs := by
  rcases h.h with h | ⟨ob, h⟩
  · exact ⟨.inl (e.kp _ _ n h)⟩
  · exact ⟨.inr ⟨ob, e.kp _ _ n h⟩⟩
theorem Xt.refl (w : Z.W H) : Xt Z H H := ⟨w, w, fun _ _ _ _ h => h⟩
theorem Xt.trans (a : Xt Z H H1) (b : Xt Z H1 H2) : Xt Z H H2 := ⟨a.w1, b.w2, fun c o n t h => b.kq c o n t (a.kq c o n t h)⟩
theorem nS (w : Z.W H) (h : H p = none) : ¬ Z.S p := fun s => Z.live w s h
theorem Xt.new (w : Z.W H) (h : H p = none) : Xt Z H (upd H p o) := by
  have k : ∀ a u, H a = some u → upd H p o a = some u := fun a u e => by
    rw [upd_ne (ne_of_none e h)]
    exact e
  exact ⟨w, Z.keep w fun a u _ e => k a u e, fun a u _ _ e => k a u e⟩
/-- a place of one's own may change -/
theorem Xt.mut {xs : List V} (e : Xt Z H H') (h : Fr H p) (n : ¬ Z.S p) (hp : H' p = some (.lst xs)) : Xt Z H (upd H' p o) := by
  refine ⟨e.w1, Z.keep e.w2 fun a u s hu => ?_, fun a u s t hu => ?_⟩
  · have : a ≠ p := fun z => by
      subst z
      rcases s with s | ⟨φ, rfl⟩
      · exact n s
      · rw [hp] at hu; cases hu
    rw [upd_ne this]
    exact hu
  · have : a ≠ p := fun z => by
      subst z
      obtain ⟨ps, e⟩ := h u hu
      exact t ps e
    rw [upd_ne this]
    exact e.kq a u s t hu
theorem Xt.back (e : Xt Z H H') (h : H' p = none) : Fr H p := fun u q => by
  by_cases t : ∃ ps, u = .tbl ps
  · exact t
  · have := e.kq p u (nS e.w2 h) (fun ps z => t ⟨ps, z⟩) q
    rw [h] at this
    cases this
theorem Xt.backF (e : Xt Z H H') (n : ¬ Z.S p) (h : Fr H' p) : Fr H p := fun u q => by
  by_cases t : ∃ ps, u = .tbl ps
  · exact t
  · exact h u (e.kq p u n (fun ps z => t ⟨ps, z⟩) q)
end

/-! ### data -/
mutual
inductive Da (Z : Wd) (H : Hp) : V → PyData → Prop
  | non : Da Z H .non .none
  | bl (b : Bool) : Da Z H (.bl b) (.bool b)
  | int (i : Int) : Da Z H (.int i) (.int i)
  | str (x : Str) : Da Z H (.str x) (.str x)
  | lst {a : Addr} {xs : List V} {ds : List PyData} : H a = some (.lst xs) → ¬ Z.S a → DaL Z H xs ds → Da Z H (.ref a) (.list ds)
  | tup {a : Addr} {xs : List V} {ds : List PyData} : RdT H a xs → ¬ Z.S a → DaL Z H xs ds → Da Z H (.ref a) (.tuple ds)
  | dct {a : Addr} : H a = some (.dK []) → ¬ Z.S a → Da Z H (.ref a) (.dict [])
inductive DaL (Z : Wd) (H : Hp) : List V → List PyData → Prop
  | nil : DaL Z H [] []
  | cons {v : V} {vs : List V} {d : PyData} {ds : List PyData} : Da Z H v d → DaL Z H vs ds → DaL Z H (v :: vs) (d :: ds)
end
section
variable {Z : Wd} {H H' : Hp}
mutual
theorem Da.mono (e : Xt Z H H') : ∀ {d : PyData} {v : V}, Da Z H v d → Da Z H' v d
  | .none, _, h => by cases h; exact .non
  | .bool b, _, h => by cases h; exact .bl b
  | .int i, _, h => by cases h; exact .int i
  | .str x, _, h => by cases h; exact .str x
  | .list ds, _, h => by
    cases h with
    | lst h1 h2 h3 => exact .lst (e.kp _ _ h2 h1) h2 (DaL.mono e h3)
  | .tuple ds, _, h => by
    cases h with
    | tup h1 h2 h3 => exact .tup (e.rd h2 h1) h2 (DaL.mono e h3)
  | .dict ds, _, h => by
    cases h with
    | dct h1 h2 => exact .dct (e.kp _ _ h2 h1) h2
theorem DaL.mono (e : Xt Z H H') : ∀ {ds : List PyData} {vs : List V}, DaL Z H vs ds → DaL Z H' vs ds
  | [], _, h => by cases h; exact .nil
  | d :: ds, _, h => by
    cases h with
    | cons h1 h2 => exact .cons (Da.mono e h1) (DaL.mono e h2)
end
theorem DaL.length : ∀ {ds : List PyData} {vs : List V}, DaL Z H vs ds → vs.length = ds.length
  | [], _, h => by cases h; rfl
  | d :: ds, _, h => by
    cases h with
    | cons h1 h2 => simp [DaL.length h2]
theorem DaL.get : ∀ {ds : List PyData} {vs : List V} {i : Nat} {d : PyData}, DaL Z H vs ds → ds[i]? = some d → ∃ v, vs[i]? = some v ∧ Da Z H v d
  | [], _, _, _, h, e => by simp at e
  | d :: ds, _, 0, _, h, e => by
    cases h with
    | cons h1 h2 => simp at e; subst e; exact ⟨_, rfl, h1⟩
  | d :: ds, _, i + 1, _, h, e => by
    cases h with
    | cons h1 h2 =>
      obtain ⟨v, a, b⟩ := DaL.get h2 (i := i) (by simpa using e)
      exact ⟨v, by simpa using a, b⟩
theorem DaL.getV : ∀ {ds : List PyData} {vs : List V} {i : Nat} {v : V}, DaL Z H vs ds → vs[i]? = some v → ∃ d, ds[i]? = some d ∧ Da Z H v d
  | [], _, _, _, h, e => by cases h; simp at e
  | d :: ds, _, 0, _, h, e => by
    cases h with
    | cons h1 h2 => simp at e; subst e; exact ⟨_, rfl, h1⟩
  | d :: ds, _, i + 1, _, h, e => by
    cases h with
    | cons h1 h2 =>
      obtain ⟨v, a, b⟩ := DaL.getV h2 (i := i) (by simpa using e)
      exact ⟨v, by simpa using a, b⟩
theorem DaL.append : ∀ {ds es : List PyData} {vs us : List V}, DaL Z H vs ds → DaL Z H us es → DaL Z H (vs ++ us) (ds ++ es)
  | [], _, _, _, h, k => by cases h; exact k
  | d :: ds, _, _, _, h, k => by
    cases h with
    | cons h1 h2 => exact .cons h1 (DaL.append h2 k)
theorem DaL.take : ∀ {ds : List PyData} {vs : List V} (n : Nat), DaL Z H vs ds → DaL Z H (vs.take n) (ds.take n)
  | _, _, 0, _ => .nil
  | [], _, n + 1, h => by cases h; exact .nil
  | d :: ds, _, n + 1, h => by
    cases h with
    | cons h1 h2 => exact .cons h1 (DaL.take n h2)
theorem DaL.drop : ∀ {ds : List PyData} {vs : List V} (n : Nat), DaL Z H vs ds → DaL Z H (vs.drop n) (ds.drop n)
  | _, _, 0, h => h
  | [], _, n + 1, h => by cases h; exact .nil
  | d :: ds, _, n + 1, h => by
    cases h with
    | cons h1 h2 => exact DaL.drop n h2
theorem DaL.reverse : ∀ {ds : List PyData} {vs : List V}, DaL Z H vs ds → DaL Z H vs.reverse ds.reverse
  | [], _, h => by cases h; exact .nil
  | d :: ds, _, h => by
    cases h with
    | cons h1 h2 =>
      rw [List.reverse_cons, List.reverse_cons]
      exact DaL.append (DaL.reverse h2) (.cons h1 .nil)
end
/-! data without a dict -/
mutual
def nod : PyData → Bool
  | .list ds => nodL ds
  | .tuple ds => nodL ds
  | .dict _ => false
  | _ => true
def nodL : List PyData → Bool
  | [] => true
  | d :: ds => nod d && nodL ds
end
section
variable {Z : Wd} {H : Hp} {K : PySem.W.Frag}
mutual
theorem Da.dp : ∀ {d : PyData} {v : V}, Da Z H v d → nod d = true → Dp K H v d
  | .none, _, h, _ => by cases h; exact .non
  | .bool b, _, h, _ => by cases h; exact .bl b
  | .int i, _, h, _ => by cases h; exact .int i
  | .str x, _, h, _ => by cases h; exact .str x
  | .list ds, _, h, k => by
    cases h with
    | lst h1 h2 h3 => exact .lst (.inl (.inl h1)) (DaL.dp h3 (by simpa [nod] using k))
  | .tuple ds, _, h, k => by
    cases h with
    | tup h1 h2 h3 => exact .tup (.inl h1.h) (DaL.dp h3 (by simpa [nod] using k))
  | .dict ds, _, h, k => by simp [nod] at k
theorem DaL.dp : ∀ {ds : List PyData} {vs : List V}, DaL Z H vs ds → nodL ds = true → DpAll K H vs ds
  | [], _, h, _ => by cases h; exact .nil
  | d :: ds, _, h, k => by
    cases h with
    | cons h1 h2 =>
      rw [nodL, Bool.and_eq_true] at k
      exact .cons (Da.dp h1 k.1) (DaL.dp h2 k.2)
end
end
/-- the built-in type of a data value -/
def tyD : PyData → String
  | .none => "NoneType"
  | .bool _ => "bool"
  | .int _ => "int"
  | .str _ => "str"
  | .list _ => "list"
  | .tuple _ => "tuple"
  | .dict _ => "dict"
theorem tyX_rd {H : Hp} {K : PySem.W.Frag} {a : Addr} {xs : List V} (h : RdT H a xs) : TyX K H (.ref a) (.type "tuple") := by
  rcases h.h with h | ⟨ob, h⟩
  · exact .base (.tup h)
  · exact .fTuple h
theorem Da.ty {Z : Wd} {H : Hp} {K : PySem.W.Frag} {v : V} {d : PyData} (h : Da Z H v d) : TyX K H v (.type (tyD d)) := by
  cases h with
  | non => exact .base .non
  | bl b => exact .base (.bl b)
  | int i => exact .base (.int i)
  | str x => exact .base (.str x)
  | lst h1 => exact .base (.lst h1)
  | tup h1 => exact tyX_rd h1
  | dct h1 => exact .base (.dK h1)

/-! ### what an expression gives -/
abbrev Rl := V → Hp → Prop
abbrev IsV (v : V) : Rl := fun x _ => x = v
abbrev DaR (Z : Wd) (d : PyData) : Rl := fun x H => Da Z H x d
/-- a tuple, a list of known values -/
def TuR (Z : Wd) (vs : List V) : Rl := fun x H => ∃ a, x = .ref a ∧ RdT H a vs ∧ ¬ Z.S a
def LiR (Z : Wd) (vs : List V) : Rl := fun x H => ∃ a, x = .ref a ∧ H a = some (.lst vs) ∧ ¬ Z.S a
theorem TuR.mono {Z : Wd} {H H' : Hp} {vs : List V} {x : V} (e : Xt Z H H') (h : TuR Z vs x H) : TuR Z vs x H' := by
  obtain ⟨a, h1, h2, h3⟩ := h
  exact ⟨a, h1, e.rd h3 h2, h3⟩
theorem LiR.mono {Z : Wd} {H H' : Hp} {vs : List V} {x : V} (e : Xt Z H H') (h : LiR Z vs x H) : LiR Z vs x H' := by
  obtain ⟨a, h1, h2, h3⟩ := h
  exact ⟨a, h1, e.kp _ _ h3 h2, h3⟩
def Ev (Z : Wd) (te : TE) (σ : L2.St) (H : Hp) (R : Rl) : Prop := ∀ H1, Xt Z H H1 → ∀ Q : VK, (∀ v H2, Xt Z H1 H2 → R v H2 → Q v H2) → te σ H1 Q
/-- a new object: its place was free -/
def EvN (Z : Wd) (te : TE) (σ : L2.St) (H : Hp) (R : Addr → Hp → Prop) : Prop := ∀ H1, Xt Z H H1 → ∀ Q : VK, (∀ p H2, Fr H1 p → ¬ Z.S p → Xt Z H1 H2 → R p H2 → Q (.ref p) H2) → te σ H1 Q
def EvT (Z : Wd) (tt : TT) (σ : L2.St) (H : Hp) (b : Bool) : Prop := ∀ H1, Xt Z H H1 → ∀ Q : Bool → Hp → Prop, (∀ H2, Xt Z H1 H2 → Q b H2) → tt σ H1 Q
def EvA (Z : Wd) (ta : TA) (σ : L2.St) (H : Hp) (R : List V → Hp → Prop) : Prop := ∀ H1, Xt Z H H1 → ∀ Q : List V → Hp → Prop, (∀ vs H2, Xt Z H1 H2 → R vs H2 → Q vs H2) → ta σ H1 Q
/-- an operation on values -/
def Op (Z : Wd) (r : R2) (x y : V) (H : Hp) (R : Rl) : Prop := ∀ Q : VK, (∀ v H2, Xt Z H H2 → R v H2 → Q v H2) → r x y H Q
def Cl (Z : Wd) (r : List V → Hp → VK → Prop) (vs : List V) (H : Hp) (R : Rl) : Prop := ∀ Q : VK, (∀ v H2, Xt Z H H2 → R v H2 → Q v H2) → r vs H Q
section
variable {Z : Wd} {K : PySem.W.Frag} {σ : L2.St} {H H' : Hp} {ta tb te tc : TE} {t u : TT} {x y z v : V} {r : R2} {R R1 : Rl}
theorem Ev.mono (e : Xt Z H H') (h : Ev Z te σ H R) : Ev Z te σ H' R := fun H1 a Q q => h H1 (e.trans a) Q q
theorem EvT.mono {b : Bool} (e : Xt Z H H') (h : EvT Z t σ H b) : EvT Z t σ H' b := fun H1 a Q q => h H1 (e.trans a) Q q
theorem Ev.imp (h : Ev Z te σ H R) (k : ∀ v H1, Xt Z H H1 → R v H1 → R1 v H1) : Ev Z te σ H R1 := fun H1 a Q q => h H1 a Q fun v H2 e r => q v H2 e (k v H2 (a.trans e) r)
theorem EvN.ev {RN : Addr → Hp → Prop} (h : EvN Z te σ H RN) (k : ∀ p H1, Xt Z H H1 → Fr H p → RN p H1 → R (.ref p) H1) : Ev Z te σ H R := fun H1 a Q q => h H1 a Q fun p H2 n ns e r => q (.ref p) H2 e (k p H2 (a.trans e) (a.backF ns n) r)
theorem ev_var {i : Nat} (h : σ[i]? = some (some v)) : Ev Z (tVar i) σ H (IsV v) := fun H1 a _ q => ⟨v, h, q v H1 (.refl a.w2) rfl⟩
theorem ev_c : Ev Z (tC v) σ H (IsV v) := fun H1 a _ q => q v H1 (.refl a.w2) rfl
theorem ev_op (ha : Ev Z ta σ H (IsV x)) (hb : Ev Z tb σ H (IsV y)) (hr : ∀ H1, Xt Z H H1 → Op Z r x y H1 R) : Ev Z (tOp r ta tb) σ H R := fun H1 e Q q =>
  ha H1 e _ fun v H2 e2 hv => by
    subst hv
    exact hb H2 (e.trans e2) _ fun w H3 e3 hw => by
      subst hw
      exact hr H3 ((e.trans e2).trans e3) Q fun z H4 e4 rz => q z H4 ((e2.trans e3).trans e4) rz
/-- the operands told as they come -/
theorem ev_opX {Ra : Rl} {Rb : V → Rl} (ha : Ev Z ta σ H Ra) (hb : ∀ x H1, Xt Z H H1 → Ra x H1 → Ev Z tb σ H1 (Rb x)) (hr : ∀ x y H1 H2, Xt Z H H1 → Xt Z H1 H2 → Ra x H1 → Rb x y H2 → Op Z r x y H2 R) : Ev Z (tOp r ta tb) σ H R := fun H1 e Q q =>
  ha H1 e _ fun v H2 e2 hv => hb v H2 (e.trans e2) hv H2 (.refl e2.w2) _ fun w H3 e3 hw => hr v w H2 H3 (e.trans e2) e3 hv hw Q fun z H4 e4 rz => q z H4 ((e2.trans e3).trans e4) rz
theorem ev_un {f : V → Hp → VK → Prop} (ha : Ev Z ta σ H (IsV x)) (hr : ∀ H1, Xt Z H H1 → ∀ Q : VK, (∀ v H2, Xt Z H1 H2 → R v H2 → Q v H2) → f x H1 Q) : Ev Z (tUn f ta) σ H R := fun H1 e Q q =>
  ha H1 e _ fun v H2 e2 hv => by
    subst hv
    exact hr H2 (e.trans e2) Q fun z H3 e3 rz => q z H3 (e2.trans e3) rz
theorem op_i0 {g : Int → Int → V} {i j : Int} (w : Z.W H) : Op Z (rI0 g) (.int i) (.int j) H (IsV (g i j)) := fun _ q => ⟨i, j, rfl, rfl, q _ H (.refl w) rfl⟩
theorem op_iC {C : Int → Int → Prop} {g : Int → Int → V} {i j : Int} (w : Z.W H) (hc : C i j) : Op Z (rI C g) (.int i) (.int j) H (IsV (g i j)) := fun _ q => ⟨i, j, rfl, rfl, hc, q _ H (.refl w) rfl⟩
theorem ev_i0 {g : Int → Int → V} {i j : Int} (ha : Ev Z ta σ H (IsV (.int i))) (hb : Ev Z tb σ H (IsV (.int j))) : Ev Z (tOp (rI0 g) ta tb) σ H (IsV (g i j)) := ev_op ha hb fun H1 e => op_i0 e.w2
theorem ev_iC {C : Int → Int → Prop} {g : Int → Int → V} {i j : Int} (ha : Ev Z ta σ H (IsV (.int i))) (hb : Ev Z tb σ H (IsV (.int j))) (hc : C i j) : Ev Z (tOp (rI C g) ta tb) σ H (IsV (g i j)) := ev_op ha hb fun H1 e => op_iC e.w2 hc
theorem ev_neg {g : Int → V} {i : Int} (ha : Ev Z ta σ H (IsV (.int i))) : Ev Z (tUn (rU g) ta) σ H (IsV (g i)) := ev_un ha fun H1 e Q q => ⟨i, rfl, q _ H1 (.refl e.w2) rfl⟩
theorem ev_eq (ha : Ev Z ta σ H (IsV x)) (hb : Ev Z tb σ H (IsV y)) (h : scal x y = true) : Ev Z (tOp rEq ta tb) σ H (IsV (.bl (decide (x = y)))) := ev_op ha hb fun H1 e Q q => ⟨h, q _ H1 (.refl e.w2) rfl⟩
theorem ev_ne (ha : Ev Z ta σ H (IsV x)) (hb : Ev Z tb σ H (IsV y)) (h : scal x y = true) : Ev Z (tOp rNe ta tb) σ H (IsV (.bl (!decide (x = y)))) := ev_op ha hb fun H1 e Q q => ⟨h, q _ H1 (.refl e.w2) rfl⟩
/-- t[i], xs[i] -/
theorem ev_ixT {vs : List V} {i : Int} (ha : Ev Z ta σ H (IsV x)) (hx : TuR Z vs x H) (hb : Ev Z tb σ H (IsV (.int i))) (hi : atI vs i = some v) : Ev Z (tOp (rIxT K) ta tb) σ H (IsV v) := ev_op ha hb fun H1 e Q q => by
  obtain ⟨a, rfl, h2, h3⟩ := hx
  exact ⟨a, vs, i, v, rfl, rfl, .inl (e.rd h3 h2).h, hi, q v H1 (.refl e.w2) rfl⟩
theorem ev_ixL {vs : List V} {i : Int} (ha : Ev Z ta σ H (IsV x)) (hx : LiR Z vs x H) (hb : Ev Z tb σ H (IsV (.int i))) (hi : atI vs i = some v) : Ev Z (tOp (rIxL K) ta tb) σ H (IsV v) := ev_op ha hb fun H1 e Q q => by
  obtain ⟨a, rfl, h2, h3⟩ := hx
  exact ⟨a, vs, i, v, rfl, rfl, .inl (.inl (e.kp _ _ h3 h2)), hi, q v H1 (.refl e.w2) rfl⟩
theorem et_test {b : Bool} (h : Ev Z te σ H (IsV (.bl b))) : EvT Z (tTest te) σ H b := fun H1 e _ q => h H1 e _ fun v H2 e2 hv => ⟨b, hv, q H2 e2⟩
theorem et_B {b : Bool} (h : Ev Z te σ H (IsV (.bl b))) : EvT Z (tB te) σ H b := fun H1 e _ q => h H1 e _ fun v H2 e2 hv => ⟨b, hv, q H2 e2⟩
theorem et_and {a b : Bool} (h1 : EvT Z t σ H a) (h2 : a = true → EvT Z u σ H b) : EvT Z (tAnd t u) σ H (a && b) := fun H1 e Q q => h1 H1 e _ fun H2 e2 => by
  cases a with
  | true => exact h2 rfl H2 (e.trans e2) Q fun H3 e3 => q H3 (e2.trans e3)
  | false => exact q H2 e2
theorem et_or {a b : Bool} (h1 : EvT Z t σ H a) (h2 : a = false → EvT Z u σ H b) : EvT Z (tOr t u) σ H (a || b) := fun H1 e Q q => h1 H1 e _ fun H2 e2 => by
  cases a with
  | true => exact q H2 e2
  | false => exact h2 rfl H2 (e.trans e2) Q fun H3 e3 => q H3 (e2.trans e3)
theorem et_not {a : Bool} (h1 : EvT Z t σ H a) : EvT Z (tNot t) σ H (!a) := fun H1 e _ q => h1 H1 e _ fun H2 e2 => q H2 e2
theorem et_is {a b : Bool} (h : EvT Z t σ H a) (e : a = b) : EvT Z t σ H b := e ▸ h
theorem ev_is {w : V} (h : Ev Z te σ H (IsV v)) (e : v = w) : Ev Z te σ H (IsV w) := e ▸ h
theorem ev_andV {a b : Bool} (h1 : Ev Z ta σ H (IsV (.bl a))) (h2 : a = true → Ev Z tb σ H (IsV (.bl b))) : Ev Z (tAndV ta tb) σ H (IsV (.bl (a && b))) := fun H1 e Q q => h1 H1 e _ fun v H2 e2 hv => ⟨a, hv, by
  cases a with
  | true => exact h2 rfl H2 (e.trans e2) Q fun w H3 e3 hw => q w H3 (e2.trans e3) hw
  | false => exact q _ H2 e2 rfl⟩
theorem ev_orV {a b : Bool} (h1 : Ev Z ta σ H (IsV (.bl a))) (h2 : a = false → Ev Z tb σ H (IsV (.bl b))) : Ev Z (tOrV ta tb) σ H (IsV (.bl (a || b))) := fun H1 e Q q => h1 H1 e _ fun v H2 e2 hv => ⟨a, hv, by
  cases a with
  | true => exact q _ H2 e2 rfl
  | false => exact h2 rfl H2 (e.trans e2) Q fun w H3 e3 hw => q w H3 (e2.trans e3) hw⟩
theorem ev_notV {a : Bool} (h1 : Ev Z ta σ H (IsV (.bl a))) : Ev Z (tNotV ta) σ H (IsV (.bl (!a))) := fun H1 e _ q => h1 H1 e _ fun v H2 e2 hv => ⟨a, hv, q _ H2 e2 rfl⟩
theorem ev_if {b : Bool} (h : EvT Z t σ H b) (h1 : b = true → Ev Z ta σ H R) (h2 : b = false → Ev Z tb σ H R) : Ev Z (tIf t ta tb) σ H R := fun H1 e Q q => h H1 e _ fun H2 e2 => by
  cases b with
  | true => exact h1 rfl H2 (e.trans e2) Q fun w H3 e3 hw => q w H3 (e2.trans e3) hw
  | false => exact h2 rfl H2 (e.trans e2) Q fun w H3 e3 hw => q w H3 (e2.trans e3) hw
/-- a < b < c -/
theorem ev_chain {r r' : R2} {a b : Bool} (ha : Ev Z ta σ H (IsV x)) (hb : Ev Z tb σ H (IsV y)) (hr : ∀ H1, Xt Z H H1 → Op Z r x y H1 (IsV (.bl a))) (hc : a = true → Ev Z tc σ H (IsV z)) (hr' : a = true → ∀ H1, Xt Z H H1 → Op Z r' y z H1 (IsV (.bl b))) :
    Ev Z (tChain r r' ta tb tc) σ H (IsV (.bl (a && b))) := fun H1 e Q q =>
  ha H1 e _ fun v H2 e2 hv => by
    subst hv
    exact hb H2 (e.trans e2) _ fun w H3 e3 hw => by
      subst hw
      refine hr H3 ((e.trans e2).trans e3) _ fun k H4 e4 hk => ⟨a, hk, ?_⟩
      have e14 := (e2.trans e3).trans e4
      cases a with
      | true =>
        show tc σ H4 _
        refine hc rfl H4 (e.trans e14) _ fun w5 H5 e5 hw5 => ?_
        subst hw5
        exact hr' rfl H5 ((e.trans e14).trans e5) Q fun w6 H6 e6 hw6 => q w6 H6 ((e14.trans e5).trans e6) hw6
      | false =>
        show Q (.bl false) H4
        exact q _ H4 e14 rfl
/-! arguments -/
theorem ea_nil : EvA Z tNil σ H (fun vs _ => vs = []) := fun H1 e _ q => q [] H1 (.refl e.w2) rfl
theorem ea_cons {tr : TA} {vs : List V} (h : Ev Z ta σ H (IsV x)) (hr : EvA Z tr σ H (fun us _ => us = vs)) : EvA Z (tCons ta tr) σ H (fun us _ => us = x :: vs) := fun H1 e _ q =>
  h H1 e _ fun v H2 e2 hv => hr H2 (e.trans e2) _ fun us H3 e3 hu => q _ H3 (e2.trans e3) (by rw [hv, hu])
/-- told as they come -/
theorem ea_consX {tr : TA} {RA : List V → Hp → Prop} (h : Ev Z ta σ H R) (hr : ∀ v H1, Xt Z H H1 → R v H1 → EvA Z tr σ H1 (fun us H2 => RA (v :: us) H2)) : EvA Z (tCons ta tr) σ H RA := fun H1 e _ q =>
  h H1 e _ fun v H2 e2 hv => hr v H2 (e.trans e2) hv H2 (.refl e2.w2) _ fun us H3 e3 hu => q _ H3 (e2.trans e3) hu
theorem ea_nilX {RA : List V → Hp → Prop} (h : ∀ H1, Xt Z H H1 → RA [] H1) : EvA Z tNil σ H RA := fun H1 e _ q => q [] H1 (.refl e.w2) (h H1 e)
theorem en_tup {ta : TA} {RA : List V → Hp → Prop} (h : EvA Z ta σ H RA) (hl : ∀ vs H1, RA vs H1 → vs.length ≤ 100000) : EvN Z (tTup ta) σ H (fun p H2 => ∃ vs H1, RA vs H1 ∧ Xt Z H H1 ∧ Xt Z H1 H2 ∧ H2 p = some (.tup vs) ∧ ¬ Z.S p) := fun H1 e _ q =>
  h H1 e _ fun vs H2 e2 hu => ⟨Nat.le_trans (hl vs H2 hu) (by decide), fun p hp => q p _ (e2.back hp) (nS e2.w2 hp) (e2.trans (.new e2.w2 hp)) ⟨vs, H2, hu, e.trans e2, .new e2.w2 hp, upd_same, nS e2.w2 hp⟩⟩
theorem en_lst {ta : TA} {RA : List V → Hp → Prop} (h : EvA Z ta σ H RA) (hl : ∀ vs H1, RA vs H1 → vs.length ≤ 100000) : EvN Z (tLst ta) σ H (fun p H2 => ∃ vs H1, RA vs H1 ∧ Xt Z H H1 ∧ Xt Z H1 H2 ∧ H2 p = some (.lst vs) ∧ ¬ Z.S p) := fun H1 e _ q =>
  h H1 e _ fun vs H2 e2 hu => ⟨Nat.le_trans (hl vs H2 hu) (by decide), fun p hp => q p _ (e2.back hp) (nS e2.w2 hp) (e2.trans (.new e2.w2 hp)) ⟨vs, H2, hu, e.trans e2, .new e2.w2 hp, upd_same, nS e2.w2 hp⟩⟩
/-- a tuple of known values -/
theorem ev_tup {ta : TA} {vs : List V} (h : EvA Z ta σ H (fun us _ => us = vs)) (hl : vs.length ≤ 100000) : Ev Z (tTup ta) σ H (TuR Z vs) :=
  (en_tup h (fun us _ e => by rw [e]; exact hl)).ev fun p H1 _ _ ⟨us, H2, e1, _, _, e2, e3⟩ => ⟨p, rfl, ⟨.inl (by rw [e2, e1])⟩, e3⟩
theorem ev_lst {ta : TA} {vs : List V} (h : EvA Z ta σ H (fun us _ => us = vs)) (hl : vs.length ≤ 100000) : Ev Z (tLst ta) σ H (LiR Z vs) :=
  (en_lst h (fun us _ e => by rw [e]; exact hl)).ev fun p H1 _ _ ⟨us, H2, e1, _, _, e2, e3⟩ => ⟨p, rfl, by rw [e2, e1], e3⟩
/-- .. and it is tracked as a tuple -/
theorem ev_tupS {ta : TA} {vs : List V} (h : EvA Z ta σ H (fun us _ => us = vs)) (hl : vs.length ≤ 100000) : Ev Z (tTup ta) σ H (fun x H1 => ∃ a, x = .ref a ∧ H1 a = some (.tup vs) ∧ ¬ Z.S a) :=
  (en_tup h (fun us _ e => by rw [e]; exact hl)).ev fun p H1 _ _ ⟨us, H2, e1, _, _, e2, e3⟩ => ⟨p, rfl, by rw [e2, e1], e3⟩
/-- a tuple of data -/
theorem ev_tupD {ta : TA} {ds : List PyData} (h : EvA Z ta σ H (fun us H1 => DaL Z H1 us ds)) (hl : ds.length ≤ 100000) : Ev Z (tTup ta) σ H (DaR Z (.tuple ds)) :=
  (en_tup h (fun us _ e => by rw [e.length]; exact hl)).ev fun p H1 _ _ ⟨us, H2, e1, _, x, e2, e3⟩ => .tup ⟨.inl e2⟩ e3 (e1.mono x)
theorem ev_lstD {ta : TA} {ds : List PyData} (h : EvA Z ta σ H (fun us H1 => DaL Z H1 us ds)) (hl : ds.length ≤ 100000) : Ev Z (tLst ta) σ H (DaR Z (.list ds)) :=
  (en_lst h (fun us _ e => by rw [e.length]; exact hl)).ev fun p H1 _ _ ⟨us, H2, e1, _, x, e2, e3⟩ => .lst e2 e3 (e1.mono x)
theorem ea_nilD : EvA Z tNil σ H (fun us H1 => DaL Z H1 us []) := fun H1 e _ q => q [] H1 (.refl e.w2) .nil
theorem ea_consD {tr : TA} {d : PyData} {ds : List PyData} (h : Ev Z ta σ H (DaR Z d)) (hr : EvA Z tr σ H (fun us H1 => DaL Z H1 us ds)) : EvA Z (tCons ta tr) σ H (fun us H1 => DaL Z H1 us (d :: ds)) := fun H1 e _ q =>
  h H1 e _ fun v H2 e2 hv => hr H2 (e.trans e2) _ fun us H3 e3 hu => q _ H3 (e2.trans e3) (.cons (Da.mono e3 hv) hu)
theorem ev_da {d : PyData} (h : Ev Z te σ H (IsV v)) (hd : Da Z H v d) : Ev Z te σ H (DaR Z d) := h.imp fun w H1 e hw => by subst hw; exact hd.mono e
theorem ev_cb {f : List V → Hp → VK → Prop} {ta : TA} {vs : List V} (h : EvA Z ta σ H (fun us _ => us = vs)) (hr : ∀ H1, Xt Z H H1 → Cl Z f vs H1 R) : Ev Z (tCB f ta) σ H R := fun H1 e Q q =>
  h H1 e _ fun us H2 e2 hu => by
    subst hu
    exact hr H2 (e.trans e2) Q fun v H3 e3 hv => q v H3 (e2.trans e3) hv
theorem ev_cbX {f : List V → Hp → VK → Prop} {ta : TA} {RA : List V → Hp → Prop} (h : EvA Z ta σ H RA) (hr : ∀ us H1, Xt Z H H1 → RA us H1 → Cl Z f us H1 R) : Ev Z (tCB f ta) σ H R := fun H1 e Q q =>
  h H1 e _ fun us H2 e2 hu => hr us H2 (e.trans e2) hu Q fun v H3 e3 hv => q v H3 (e2.trans e3) hv

/-! ### promises -/
/-- what a def promises: at such arguments, in such a heap, it gives R -/
abbrev Gv := Wd → List V → Hp → Rl → Prop
def spOf (G : Gv) : Sp := fun vs H Q _ => ∃ Z R, Z.W H ∧ G Z vs H R ∧ ∀ v H2, Xt Z H H2 → R v H2 → Q v H2
theorem ev_call {G : Gv} {E : XK} {ta : TA} {vs : List V} (h : EvA Z ta σ H (fun us _ => us = vs)) (hs : ∀ H1, Xt Z H H1 → G Z vs H1 R) : Ev Z (tCall (spOf G) [] E ta) σ H R := fun H1 e Q q =>
  h H1 e _ fun us H2 e2 hu => by
    subst hu
    rw [List.append_nil]
    exact ⟨Z, R, e2.w2, hs H2 (e.trans e2), fun v H3 e3 hv => q v H3 (e2.trans e3) hv⟩
theorem ev_callX {G : Gv} {E : XK} {ta : TA} {RA : List V → Hp → Prop} (h : EvA Z ta σ H RA) (hs : ∀ us H1, Xt Z H H1 → RA us H1 → G Z us H1 R) : Ev Z (tCall (spOf G) [] E ta) σ H R := fun H1 e Q q =>
  h H1 e _ fun us H2 e2 hu => by
    rw [List.append_nil]
    exact ⟨Z, R, e2.w2, hs us H2 (e.trans e2) hu, fun v H3 e3 hv => q v H3 (e2.trans e3) hv⟩

/-! ### statements -/
variable {D : Ends} {tu tw tz : TS} {g : TG}
theorem s_asg {i : Nat} (w : Z.W H) (h : Ev Z te σ H R) (k : ∀ v H1, Xt Z H H1 → R v H1 → D.nx (σ.set i (some v)) H1) : tAsg te (gName i) D σ H := h H (.refl w) _ fun v H1 e r => k v H1 e r
theorem q_asg {i : Nat} (w : Z.W H) (h : Ev Z te σ H R) (k : ∀ v H1, Xt Z H H1 → R v H1 → tz D (σ.set i (some v)) H1) : tSeq (tAsg te (gName i)) tz D σ H := s_asg (D := { D with nx := tz D }) w h k
theorem q_asgN {i : Nat} {RN : Addr → Hp → Prop} (w : Z.W H) (h : EvN Z te σ H RN) (k : ∀ p H1, Fr H p → ¬ Z.S p → Xt Z H H1 → RN p H1 → tz D (σ.set i (some (.ref p))) H1) : tSeq (tAsg te (gName i)) tz D σ H := h H (.refl w) _ fun p H1 n ns e r => k p H1 n ns e r
theorem s_ret (w : Z.W H) (h : Ev Z te σ H R) (k : ∀ v H1, Xt Z H H1 → R v H1 → D.rt v H1) : tRet te D σ H := h H (.refl w) _ k
theorem s_if {b : Bool} (w : Z.W H) (h : EvT Z t σ H b) (h1 : b = true → ∀ H1, Xt Z H H1 → tu D σ H1) (h2 : b = false → ∀ H1, Xt Z H H1 → tw D σ H1) : tIfS t tu tw D σ H := h H (.refl w) _ fun H1 e => by
  cases b with
  | true => exact h1 rfl H1 e
  | false => exact h2 rfl H1 e
theorem q_if {b : Bool} (w : Z.W H) (h : EvT Z t σ H b) (h1 : b = true → ∀ H1, Xt Z H H1 → tu { D with nx := tz D } σ H1) (h2 : b = false → ∀ H1, Xt Z H H1 → tw { D with nx := tz D } σ H1) : tSeq (tIfS t tu tw) tz D σ H := s_if (D := { D with nx := tz D }) w h h1 h2
theorem q_when {b : Bool} (w : Z.W H) (h : EvT Z t σ H b) (h1 : b = true → ∀ H1, Xt Z H H1 → tu { D with nx := tz D } σ H1) (h2 : b = false → ∀ H1, Xt Z H H1 → tz D σ H1) : tSeq (tIfS t tu tNext) tz D σ H := s_if (D := { D with nx := tz D }) w h h1 h2
theorem s_when {b : Bool} (w : Z.W H) (h : EvT Z t σ H b) (h1 : b = true → ∀ H1, Xt Z H H1 → tu D σ H1) (h2 : b = false → ∀ H1, Xt Z H H1 → D.nx σ H1) : tIfS t tu tNext D σ H := s_if w h h1 h2
theorem s_drop (w : Z.W H) (h : Ev Z te σ H R) (k : ∀ v H1, Xt Z H H1 → R v H1 → D.nx σ H1) : tDrop te D σ H := h H (.refl w) _ fun v H1 e r => k v H1 e r
theorem q_drop (w : Z.W H) (h : Ev Z te σ H R) (k : ∀ v H1, Xt Z H H1 → R v H1 → tz D σ H1) : tSeq (tDrop te) tz D σ H := s_drop (D := { D with nx := tz D }) w h k
/-- a, b = e1, e2 -/
theorem q_par {i j : Nat} {ta : TA} {RA : List V → Hp → Prop} (w : Z.W H) (h : EvA Z ta σ H RA) (k : ∀ vs H1, Xt Z H H1 → RA vs H1 → ∃ a b, vs = [a, b] ∧ tz D ((σ.set i (some a)).set j (some b)) H1) : tSeq (tPar i j ta) tz D σ H := h H (.refl w) _ fun vs H1 e r => k vs H1 e r
theorem q_par3 {i j l : Nat} {ta : TA} {RA : List V → Hp → Prop} (w : Z.W H) (h : EvA Z ta σ H RA) (k : ∀ vs H1, Xt Z H H1 → RA vs H1 → ∃ a b c, vs = [a, b, c] ∧ tz D (((σ.set i (some a)).set j (some b)).set l (some c)) H1) : tSeq (tPar3 i j l ta) tz D σ H := h H (.refl w) _ fun vs H1 e r => k vs H1 e r
/-- xs.append(e) -/
theorem s_app {l : Addr} {xs : List V} (w : Z.W H) (hl : H l = some (.lst xs)) (nl : ¬ Z.S l) (ha : Ev Z ta σ H (IsV (.ref l))) (h : Ev Z te σ H R) (hz : xs.length < 100000) (k : ∀ v H1, Xt Z H H1 → R v H1 → H1 l = some (.lst xs) → D.nx σ (upd H1 l (.lst (xs ++ [v])))) :
    tDrop (tBM K "list" rAppend ta (tCons te tNil)) D σ H := ha H (.refl w) _ fun x H1 e1 hx => by
  subst hx
  refine ⟨.inl ⟨rfl, xs, .inl (.inl (e1.kp _ _ nl hl))⟩, h H1 e1 _ fun v H2 e2 hv => ⟨l, xs, v, rfl, rfl, (e1.trans e2).kp _ _ nl hl, Nat.lt_of_lt_of_le hz (by decide), k v H2 (e1.trans e2) hv ((e1.trans e2).kp _ _ nl hl)⟩⟩

/-! ### loops -/
theorem s_forR1 {ta : TA} {j : Nat} {n : Int} (w : Z.W H) (h : EvA Z ta σ H (fun vs _ => vs = [.int n])) (hn : 0 ≤ n ∧ n ≤ 100000) (Pv : Nat → L2.St → Hp → Prop) (h0 : ∀ H1, Xt Z H H1 → Pv 0 σ H1)
    (hs : ∀ (i : Nat) σ' H', (i : Int) < n → Pv i σ' H' → tu { D with nx := Pv (i + 1), ct := Pv (i + 1), bk := D.nx } (σ'.set j (some (.int (i : Int)))) H') (hd : ∀ σ' H', Pv n.toNat σ' H' → D.nx σ' H') : tFor (iRng1 ta) (gName j) tu D σ H :=
  h H (.refl w) _ fun vs H1 e hv => ⟨n, hv, by omega, by omega, for_range (lo := 0) (n := n.toNat) Pv (h0 H1 e) (fun i σ' H' hi p => by
    have e0 : (0 : Int) + (i : Int) = (i : Int) := Int.zero_add _
    show tu { D with nx := Pv (i + 1), ct := Pv (i + 1), bk := D.nx } (σ'.set j (some (.int ((0 : Int) + (i : Int))))) H'
    rw [e0]
    exact hs i σ' H' (by omega) p) hd⟩
theorem s_forT {vs : List V} {tl : TE} (w : Z.W H) (h : Ev Z tl σ H (IsV x)) (hx : TuR Z vs x H) (Pv : Nat → L2.St → Hp → Prop) (h0 : ∀ H1, Xt Z H H1 → Pv 0 σ H1) (hl : ∀ i σ' H', Pv i σ' H' → TuR Z vs x H')
    (hs : ∀ i y σ' H', vs[i]? = some y → Pv i σ' H' → g y σ' H' fun σ2 H2 => tu { D with nx := Pv (i + 1), ct := Pv (i + 1), bk := D.nx } σ2 H2) (hd : ∀ σ' H', Pv vs.length σ' H' → D.nx σ' H') : tFor (iTup K tl) g tu D σ H := by
  obtain ⟨a, rfl, h2, h3⟩ := hx
  have key : ∀ {H'}, TuR Z vs (.ref a) H' → SqT K H' a vs := fun h => by
    obtain ⟨b, e, h, _⟩ := h
    cases e
    exact .inl h.h
  exact h H (.refl w) _ fun y H1 e hy => ⟨a, hy, ⟨vs, .inl (e.rd h3 h2).h⟩, for_tup Pv (h0 H1 e) (fun i σ' H' _ p => key (hl i σ' H' p)) hs hd⟩
theorem s_forL {vs : List V} {tl : TE} (w : Z.W H) (h : Ev Z tl σ H (IsV x)) (hx : LiR Z vs x H) (Pv : Nat → L2.St → Hp → Prop) (h0 : ∀ H1, Xt Z H H1 → Pv 0 σ H1) (hl : ∀ i σ' H', Pv i σ' H' → LiR Z vs x H')
    (hs : ∀ i y σ' H', vs[i]? = some y → Pv i σ' H' → g y σ' H' fun σ2 H2 => tu { D with nx := Pv (i + 1), ct := Pv (i + 1), bk := D.nx } σ2 H2) (hd : ∀ σ' H', Pv vs.length σ' H' → D.nx σ' H') : tFor (iList K tl) g tu D σ H := by
  obtain ⟨a, rfl, h2, h3⟩ := hx
  have key : ∀ {H'}, LiR Z vs (.ref a) H' → SqL K H' a vs := fun h => by
    obtain ⟨b, e, h, _⟩ := h
    cases e
    exact .inl (.inl h)
  exact h H (.refl w) _ fun y H1 e hy => ⟨a, hy, ⟨vs, .inl (.inl (e.kp _ _ h3 h2))⟩, for_list Pv (h0 H1 e) (fun i σ' H' _ p => key (hl i σ' H' p)) hs hd⟩
/-- over a list or tuple that the loop's head makes -/
theorem s_forNL {tl : TE} {RN : Rl} (w : Z.W H) (h : Ev Z tl σ H RN) (k : ∀ x H1, Xt Z H H1 → RN x H1 → ∃ vs, LiR Z vs x H1 ∧ ∃ Pv : Nat → L2.St → Hp → Prop, Pv 0 σ H1 ∧ (∀ i σ' H', Pv i σ' H' → LiR Z vs x H') ∧
    (∀ i y σ' H', vs[i]? = some y → Pv i σ' H' → g y σ' H' fun σ2 H2 => tu { D with nx := Pv (i + 1), ct := Pv (i + 1), bk := D.nx } σ2 H2) ∧ (∀ σ' H', Pv vs.length σ' H' → D.nx σ' H')) : tFor (iList K tl) g tu D σ H :=
  h H (.refl w) _ fun x H1 e hx => by
    obtain ⟨vs, ⟨a, rfl, h2, h3⟩, Pv, p0, p1, p2, p3⟩ := k x H1 e hx
    have key : ∀ {H'}, LiR Z vs (.ref a) H' → SqL K H' a vs := fun h => by
      obtain ⟨b, e, h, _⟩ := h
      cases e
      exact .inl (.inl h)
    exact ⟨a, rfl, ⟨vs, .inl (.inl h2)⟩, for_list Pv p0 (fun i σ' H' _ p => key (p1 i σ' H' p)) p2 p3⟩
theorem s_forNT {tl : TE} {RN : Rl} (w : Z.W H) (h : Ev Z tl σ H RN) (k : ∀ x H1, Xt Z H H1 → RN x H1 → ∃ vs, TuR Z vs x H1 ∧ ∃ Pv : Nat → L2.St → Hp → Prop, Pv 0 σ H1 ∧ (∀ i σ' H', Pv i σ' H' → TuR Z vs x H') ∧
    (∀ i y σ' H', vs[i]? = some y → Pv i σ' H' → g y σ' H' fun σ2 H2 => tu { D with nx := Pv (i + 1), ct := Pv (i + 1), bk := D.nx } σ2 H2) ∧ (∀ σ' H', Pv vs.length σ' H' → D.nx σ' H')) : tFor (iTup K tl) g tu D σ H :=
  h H (.refl w) _ fun x H1 e hx => by
    obtain ⟨vs, ⟨a, rfl, h2, h3⟩, Pv, p0, p1, p2, p3⟩ := k x H1 e hx
    have key : ∀ {H'}, TuR Z vs (.ref a) H' → SqT K H' a vs := fun h => by
      obtain ⟨b, e, h, _⟩ := h
      cases e
      exact .inl h.h
    exact ⟨a, rfl, ⟨vs, .inl h2.h⟩, for_tup Pv p0 (fun i σ' H' _ p => key (p1 i σ' H' p)) p2 p3⟩
/-- while, by a word that falls -/
theorem s_while (W : Nat → L2.St → Hp → Prop) (m0 : Nat) (h0 : W m0 σ H)
    (hs : ∀ m σ' H', W m σ' H' → Z.W H' ∧ ∃ b, EvT Z t σ' H' b ∧ (b = true → ∀ H1, Xt Z H' H1 → tu { D with nx := fun σ2 H2 => ∃ m', m' < m ∧ W m' σ2 H2, ct := fun σ2 H2 => ∃ m', m' < m ∧ W m' σ2 H2, bk := D.nx } σ' H1) ∧ (b = false → ∀ H1, Xt Z H' H1 → D.nx σ' H1)) : tWhile t tu D σ H :=
  ⟨W, ⟨m0, h0⟩, fun m σ' H' hw => by
    obtain ⟨w, b, hb, h1, h2⟩ := hs m σ' H' hw
    refine hb H' (.refl w) _ fun H1 e => ?_
    cases b with
    | true => exact ⟨_, fun _ _ n => n, h1 rfl H1 e⟩
    | false => exact h2 rfl H1 e⟩
end
/-! ### a def whose code object is known -/
structure FunC (K : PySem.W.Frag) (x qual : Str) (st : Stmt) (f : Addr) (fd : FuncData) (c : Addr) : Prop where
  ex : ∃ (oc : Value) (od : Option Addr) (kV doc pm : Value) (an : Option Addr) (ct : Value) (osl : Array (Option Value)),
    fd = PySem.W.fnOf x qual (defArgs st) (defBody st) (defScope st) .none kV doc pm an (.ref c) ct ∧ K.lookup f = some ⟨oc, od, .func fd, osl⟩ ∧ PySem.W.codeIn K (.ref c) qual = true
theorem FunC.ok {P : Program} {w : World} {K : PySem.W.Frag} {mg : Str → Option Value} {base : Heap} {x qual : Str} {st : Stmt} {f : Addr} {fd : FuncData} {c : Addr} {N ps : List Str} {k : Nat} {sp : Sp} (F : FunC K x qual st f fd c) (S : FnScope N ps (defScope st)) (len : ∀ vs H Q E, sp vs H Q E → vs.length = ps.length)
    (hbody : ∀ (A : Around) (outer : List Env) (s : Shared) (H : Hp) (vs : List V) (Q : VK) (E : XK), Room k (A.deeper (envOfC qual (defScope st) s.heap.objs.size f (.ref c))) → sp vs H Q E →
      ∃ t, PSs (cxOf CX0 P w K mg base N qual (defScope st) f (.ref c) A outer s H E).nox (defBody st) t ∧ t { nx := fun _ H' => Q .non H', rt := Q } (L2.start N vs) H) : FnOk P w K mg base CX0 (k + 1) f fd ps sp := by
  obtain ⟨oc, od, kV, doc, pm, an, ct, osl, rfl, lk, hcd⟩ := F.ex
  refine fn_of lk hcd S len fun A outer s H vs Q E hr hsp => ?_
  obtain ⟨t, h, q⟩ := hbody A outer s H vs Q E hr hsp
  exact ⟨t, h.nox, q⟩
/-- a world that knows the tables T -/
structure TabW (Z : Wd) (T : List (Addr × Str)) : Prop where
  tabs : ∀ {H}, Z.W H → LamX.Tabs T H
  grow : ∀ {H H'}, Z.W H → LamX.ExtN H H' → LamX.Tabs T H' → Z.W H'
theorem TabW.xt {Z : Wd} {T : List (Addr × Str)} {H H' : Hp} (t : TabW Z T) (w : Z.W H) (e : LamX.ExtN H H') (h : LamX.Tabs T H') : Xt Z H H' := ⟨w, t.grow w e h, fun a o _ n q => e a o q n⟩
end Hk
/-! ## D0 -/
/-! the text: its defs by place, their names by slot, what the top leaves of them -/
namespace Hk
open PySem PySem.Spec PyProof.Rows L2
def topS (i : Nat) : Stmt := PySem.Challenge.pw_meshcore_k04_whole_hulls.main.body.getD i (.Pass ⟨0, 0, 0, 0⟩)
abbrev s_is_in : Stmt := topS 1
abbrev nm_is_in : List Str := ["value", "least", "most"]
theorem sc_is_in : FnScope nm_is_in ["value", "least", "most"] (defScope s_is_in) := ⟨rfl, rfl, rfl, by decide +kernel, rfl, by decide +kernel, by decide +kernel⟩
abbrev s_gcd : Stmt := topS 2
abbrev nm_gcd : List Str := ["one", "other"]
theorem sc_gcd : FnScope nm_gcd ["one", "other"] (defScope s_gcd) := ⟨rfl, rfl, rfl, by decide +kernel, rfl, by decide +kernel, by decide +kernel⟩
abbrev s_reduced : Stmt := topS 3
abbrev nm_reduced : List Str := ["numerator", "denominator", "common"]
theorem sc_reduced : FnScope nm_reduced ["numerator", "denominator"] (defScope s_reduced) := ⟨rfl, rfl, rfl, by decide +kernel, rfl, by decide +kernel, by decide +kernel⟩
abbrev s_plus : Stmt := topS 4
abbrev nm_plus : List Str := ["one", "other"]
theorem sc_plus : FnScope nm_plus ["one", "other"] (defScope s_plus) := ⟨rfl, rfl, rfl, by decide +kernel, rfl, by decide +kernel, by decide +kernel⟩
abbrev s_times : Stmt := topS 5
abbrev nm_times : List Str := ["one", "other"]
theorem sc_times : FnScope nm_times ["one", "other"] (defScope s_times) := ⟨rfl, rfl, rfl, by decide +kernel, rfl, by decide +kernel, by decide +kernel⟩
abbrev s_is_ratio : Stmt := topS 6
abbrev nm_is_ratio : List Str := ["value", "item"]
theorem sc_is_ratio : FnScope nm_is_ratio ["value"] (defScope s_is_ratio) := ⟨rfl, rfl, rfl, by decide +kernel, rfl, by decide +kernel, by decide +kernel⟩
abbrev s_sign : Stmt := topS 7
abbrev nm_sign : List Str := ["number"]
theorem sc_sign : FnScope nm_sign ["number"] (defScope s_sign) := ⟨rfl, rfl, rfl, by decide +kernel, rfl, by decide +kernel, by decide +kernel⟩
abbrev s_is_point : Stmt := topS 15
abbrev nm_is_point : List Str := ["value"]
theorem sc_is_point : FnScope nm_is_point ["value"] (defScope s_is_point) := ⟨rfl, rfl, rfl, by decide +kernel, rfl, by decide +kernel, by decide +kernel⟩
abbrev s_need_point : Stmt := topS 16
abbrev nm_need_point : List Str := ["value"]
theorem sc_need_point : FnScope nm_need_point ["value"] (defScope s_need_point) := ⟨rfl, rfl, rfl, by decide +kernel, rfl, by decide +kernel, by decide +kernel⟩
abbrev s_need_points : Stmt := topS 17
abbrev nm_need_points : List Str := ["value", "at"]
theorem sc_need_points : FnScope nm_need_points ["value"] (defScope s_need_points) := ⟨rfl, rfl, rfl, by decide +kernel, rfl, by decide +kernel, by decide +kernel⟩
abbrev s_order_of : Stmt := topS 18
abbrev nm_order_of : List Str := ["a", "b", "found"]
theorem sc_order_of : FnScope nm_order_of ["a", "b"] (defScope s_order_of) := ⟨rfl, rfl, rfl, by decide +kernel, rfl, by decide +kernel, by decide +kernel⟩
abbrev s_common_weight : Stmt := topS 19
abbrev nm_common_weight : List Str := ["points", "found", "p"]
theorem sc_common_weight : FnScope nm_common_weight ["points"] (defScope s_common_weight) := ⟨rfl, rfl, rfl, by decide +kernel, rfl, by decide +kernel, by decide +kernel⟩
abbrev s_scaled : Stmt := topS 20
abbrev nm_scaled : List Str := ["points", "weight", "p"]
theorem sc_scaled : FnScope nm_scaled ["points"] (defScope s_scaled) := ⟨rfl, rfl, rfl, by decide +kernel, rfl, by decide +kernel, by decide +kernel⟩
abbrev s_ranked : Stmt := topS 21
abbrev nm_ranked : List Str := ["points", "pairs", "weight"]
theorem sc_ranked : FnScope nm_ranked ["points"] (defScope s_ranked) := ⟨rfl, rfl, rfl, by decide +kernel, rfl, by decide +kernel, by decide +kernel⟩
abbrev s_doubled : Stmt := topS 23
abbrev nm_doubled : List Str := ["a", "b", "c", "first", "second"]
theorem sc_doubled : FnScope nm_doubled ["a", "b", "c"] (defScope s_doubled) := ⟨rfl, rfl, rfl, by decide +kernel, rfl, by decide +kernel, by decide +kernel⟩
abbrev s_turn_of : Stmt := topS 24
abbrev nm_turn_of : List Str := ["a", "b", "c"]
theorem sc_turn_of : FnScope nm_turn_of ["a", "b", "c"] (defScope s_turn_of) := ⟨rfl, rfl, rfl, by decide +kernel, rfl, by decide +kernel, by decide +kernel⟩
abbrev s_is_between : Stmt := topS 25
abbrev nm_is_between : List Str := ["a", "b", "p"]
theorem sc_is_between : FnScope nm_is_between ["a", "b", "p"] (defScope s_is_between) := ⟨rfl, rfl, rfl, by decide +kernel, rfl, by decide +kernel, by decide +kernel⟩
abbrev s_line_through : Stmt := topS 27
abbrev nm_line_through : List Str := ["a", "b", "u", "v"]
theorem sc_line_through : FnScope nm_line_through ["a", "b"] (defScope s_line_through) := ⟨rfl, rfl, rfl, by decide +kernel, rfl, by decide +kernel, by decide +kernel⟩
abbrev s_hull_indexes : Stmt := topS 29
abbrev nm_hull_indexes : List Str := ["points", "row", "halves", "some", "half", "at"]
theorem sc_hull_indexes : FnScope nm_hull_indexes ["points"] (defScope s_hull_indexes) := ⟨rfl, rfl, rfl, by decide +kernel, rfl, by decide +kernel, by decide +kernel⟩
abbrev s_hull : Stmt := topS 30
abbrev nm_hull : List Str := ["points", "at"]
theorem sc_hull : FnScope nm_hull ["points"] (defScope s_hull) := ⟨rfl, rfl, rfl, by decide +kernel, rfl, by decide +kernel, by decide +kernel⟩
abbrev s_weights_in : Stmt := topS 31
abbrev nm_weights_in : List Str := ["points", "chosen", "p", "a", "b", "c", "whole", "found", "part", "weight", "at", "one"]
theorem sc_weights_in : FnScope nm_weights_in ["points", "chosen", "p"] (defScope s_weights_in) := ⟨rfl, rfl, rfl, by decide +kernel, rfl, by decide +kernel, by decide +kernel⟩
abbrev s_along : Stmt := topS 32
abbrev nm_along : List Str := ["a", "b", "p", "at", "whole", "first", "one"]
theorem sc_along : FnScope nm_along ["a", "b", "p"] (defScope s_along) := ⟨rfl, rfl, rfl, by decide +kernel, rfl, by decide +kernel, by decide +kernel⟩
abbrev s_barrier : Stmt := topS 33
abbrev nm_barrier : List Str := ["points", "corners", "p", "ends", "k", "a", "b", "x", "y", "u", "v", "s", "at"]
theorem sc_barrier : FnScope nm_barrier ["points", "corners", "p"] (defScope s_barrier) := ⟨rfl, rfl, rfl, by decide +kernel, rfl, by decide +kernel, by decide +kernel⟩
abbrev s_raised : Stmt := topS 34
abbrev nm_raised : List Str := ["u", "v", "ends", "weight", "a", "best"]
theorem sc_raised : FnScope nm_raised ["u", "v", "ends"] (defScope s_raised) := ⟨rfl, rfl, rfl, by decide +kernel, rfl, by decide +kernel, by decide +kernel⟩
abbrev s_locate_in_hull : Stmt := topS 35
abbrev nm_locate_in_hull : List Str := ["points", "p"]
theorem sc_locate_in_hull : FnScope nm_locate_in_hull ["points", "p"] (defScope s_locate_in_hull) := ⟨rfl, rfl, rfl, by decide +kernel, rfl, by decide +kernel, by decide +kernel⟩
abbrev s_locate_in : Stmt := topS 36
abbrev nm_locate_in : List Str := ["points", "p", "corners", "fans", "fan", "chosen", "weights", "at", "k"]
theorem sc_locate_in : FnScope nm_locate_in ["points", "p"] (defScope s_locate_in) := ⟨rfl, rfl, rfl, by decide +kernel, rfl, by decide +kernel, by decide +kernel⟩
abbrev s_is_barrier : Stmt := topS 37
abbrev nm_is_barrier : List Str := ["points", "p", "value", "item", "u", "v", "s", "a"]
theorem sc_is_barrier : FnScope nm_is_barrier ["points", "p", "value"] (defScope s_is_barrier) := ⟨rfl, rfl, rfl, by decide +kernel, rfl, by decide +kernel, by decide +kernel⟩
abbrev s_is_mixture : Stmt := topS 38
abbrev nm_is_mixture : List Str := ["points", "p", "value", "chosen", "weights", "total", "sums", "at", "weight", "k", "one"]
theorem sc_is_mixture : FnScope nm_is_mixture ["points", "p", "value"] (defScope s_is_mixture) := ⟨rfl, rfl, rfl, by decide +kernel, rfl, by decide +kernel, by decide +kernel⟩
abbrev s_shows_in_hull : Stmt := topS 39
abbrev nm_shows_in_hull : List Str := ["points", "p", "value"]
theorem sc_shows_in_hull : FnScope nm_shows_in_hull ["points", "p", "value"] (defScope s_shows_in_hull) := ⟨rfl, rfl, rfl, by decide +kernel, rfl, by decide +kernel, by decide +kernel⟩
abbrev s_l_taken : Stmt := topS 41
abbrev nm_l_taken : List Str := ["_law_row", "_law_many", "_law_cell", "_law_found"]
theorem sc_l_taken : FnScope nm_l_taken ["_law_row", "_law_many"] (defScope s_l_taken) := ⟨rfl, rfl, rfl, by decide +kernel, rfl, by decide +kernel, by decide +kernel⟩
abbrev s_l_pick : Stmt := topS 42
abbrev nm_l_pick : List Str := ["_law_row", "_law_things"]
theorem sc_l_pick : FnScope nm_l_pick ["_law_row", "_law_things"] (defScope s_l_pick) := ⟨rfl, rfl, rfl, by decide +kernel, rfl, by decide +kernel, by decide +kernel⟩
abbrev s_l_signed : Stmt := topS 43
abbrev nm_l_signed : List Str := ["_law_row", "_law_most"]
theorem sc_l_signed : FnScope nm_l_signed ["_law_row", "_law_most"] (defScope s_l_signed) := ⟨rfl, rfl, rfl, by decide +kernel, rfl, by decide +kernel, by decide +kernel⟩
abbrev s_l_grid : Stmt := topS 44
abbrev nm_l_grid : List Str := ["_law_row", "_law_size"]
theorem sc_l_grid : FnScope nm_l_grid ["_law_row", "_law_size"] (defScope s_l_grid) := ⟨rfl, rfl, rfl, by decide +kernel, rfl, by decide +kernel, by decide +kernel⟩
abbrev s_l_points : Stmt := topS 45
abbrev nm_l_points : List Str := ["_law_row", "_law_least", "_law_most", "_law_size", "_law_found", "_law_many", "_law_round", "_law_way", "_law_turn_here", "_law_p", "_law_a", "_law_b"]
theorem sc_l_points : FnScope nm_l_points ["_law_row", "_law_least", "_law_most", "_law_size"] (defScope s_l_points) := ⟨rfl, rfl, rfl, by decide +kernel, rfl, by decide +kernel, by decide +kernel⟩
abbrev s_l_alike : Stmt := topS 46
abbrev nm_l_alike : List Str := ["_law_found", "_law_due", "_law_k"]
theorem sc_l_alike : FnScope nm_l_alike ["_law_found", "_law_due"] (defScope s_l_alike) := ⟨rfl, rfl, rfl, by decide +kernel, rfl, by decide +kernel, by decide +kernel⟩
abbrev s_l_sign : Stmt := topS 47
abbrev nm_l_sign : List Str := ["_law_number"]
theorem sc_l_sign : FnScope nm_l_sign ["_law_number"] (defScope s_l_sign) := ⟨rfl, rfl, rfl, by decide +kernel, rfl, by decide +kernel, by decide +kernel⟩
abbrev s_l_doubled : Stmt := topS 48
abbrev nm_l_doubled : List Str := ["_law_a", "_law_b", "_law_c", "_law_x", "_law_y", "_law_p", "_law_q"]
theorem sc_l_doubled : FnScope nm_l_doubled ["_law_a", "_law_b", "_law_c"] (defScope s_l_doubled) := ⟨rfl, rfl, rfl, by decide +kernel, rfl, by decide +kernel, by decide +kernel⟩
abbrev s_l_turn : Stmt := topS 49
abbrev nm_l_turn : List Str := ["_law_a", "_law_b", "_law_c"]
theorem sc_l_turn : FnScope nm_l_turn ["_law_a", "_law_b", "_law_c"] (defScope s_l_turn) := ⟨rfl, rfl, rfl, by decide +kernel, rfl, by decide +kernel, by decide +kernel⟩
abbrev s_l_order : Stmt := topS 50
abbrev nm_l_order : List Str := ["_law_a", "_law_b", "_law_found"]
theorem sc_l_order : FnScope nm_l_order ["_law_a", "_law_b"] (defScope s_l_order) := ⟨rfl, rfl, rfl, by decide +kernel, rfl, by decide +kernel, by decide +kernel⟩
abbrev s_l_between : Stmt := topS 51
abbrev nm_l_between : List Str := ["_law_a", "_law_b", "_law_p", "_law_low", "_law_high"]
theorem sc_l_between : FnScope nm_l_between ["_law_a", "_law_b", "_law_p"] (defScope s_l_between) := ⟨rfl, rfl, rfl, by decide +kernel, rfl, by decide +kernel, by decide +kernel⟩
abbrev s_l_hull : Stmt := topS 52
abbrev nm_l_hull : List Str := ["_law_points_here", "_law_found", "_law_p", "_law_least", "_law_due", "_law_turn_here", "_law_others", "_law_inside", "_law_i", "_law_later", "_law_best", "_law_j", "_law_k", "_law_a", "_law_b", "_law_c", "_law_sides", "_law_q"]
theorem sc_l_hull : FnScope nm_l_hull ["_law_points_here"] (defScope s_l_hull) := ⟨rfl, rfl, rfl, by decide +kernel, rfl, by decide +kernel, by decide +kernel⟩
abbrev s_l_gcd : Stmt := topS 53
abbrev nm_l_gcd : List Str := ["_law_one", "_law_other"]
theorem sc_l_gcd : FnScope nm_l_gcd ["_law_one", "_law_other"] (defScope s_l_gcd) := ⟨rfl, rfl, rfl, by decide +kernel, rfl, by decide +kernel, by decide +kernel⟩
abbrev s_l_lowest : Stmt := topS 54
abbrev nm_l_lowest : List Str := ["_law_x", "_law_y", "_law_w", "_law_common"]
theorem sc_l_lowest : FnScope nm_l_lowest ["_law_x", "_law_y", "_law_w"] (defScope s_l_lowest) := ⟨rfl, rfl, rfl, by decide +kernel, rfl, by decide +kernel, by decide +kernel⟩
abbrev s_l_point : Stmt := topS 55
abbrev nm_l_point : List Str := ["_law_row", "_law_size", "_law_w"]
theorem sc_l_point : FnScope nm_l_point ["_law_row", "_law_size"] (defScope s_l_point) := ⟨rfl, rfl, rfl, by decide +kernel, rfl, by decide +kernel, by decide +kernel⟩
abbrev s_l_ratio : Stmt := topS 56
abbrev nm_l_ratio : List Str := ["_law_numerator", "_law_denominator", "_law_common"]
theorem sc_l_ratio : FnScope nm_l_ratio ["_law_numerator", "_law_denominator"] (defScope s_l_ratio) := ⟨rfl, rfl, rfl, by decide +kernel, rfl, by decide +kernel, by decide +kernel⟩
abbrev s_l_plus : Stmt := topS 57
abbrev nm_l_plus : List Str := ["_law_one", "_law_other"]
theorem sc_l_plus : FnScope nm_l_plus ["_law_one", "_law_other"] (defScope s_l_plus) := ⟨rfl, rfl, rfl, by decide +kernel, rfl, by decide +kernel, by decide +kernel⟩
abbrev s_l_times : Stmt := topS 58
abbrev nm_l_times : List Str := ["_law_one", "_law_other"]
theorem sc_l_times : FnScope nm_l_times ["_law_one", "_law_other"] (defScope s_l_times) := ⟨rfl, rfl, rfl, by decide +kernel, rfl, by decide +kernel, by decide +kernel⟩
abbrev s_l_is_mixture : Stmt := topS 59
abbrev nm_l_is_mixture : List Str := ["_law_points_here", "_law_p", "_law_value", "_law_chosen", "_law_weights", "_law_total", "_law_x", "_law_y", "_law_k", "_law_weight", "_law_q", "_law_n"]
theorem sc_l_is_mixture : FnScope nm_l_is_mixture ["_law_points_here", "_law_p", "_law_value"] (defScope s_l_is_mixture) := ⟨rfl, rfl, rfl, by decide +kernel, rfl, by decide +kernel, by decide +kernel⟩
abbrev s_l_is_barrier : Stmt := topS 60
abbrev nm_l_is_barrier : List Str := ["_law_points_here", "_law_p", "_law_value", "_law_sides", "_law_q", "_law_n"]
theorem sc_l_is_barrier : FnScope nm_l_is_barrier ["_law_points_here", "_law_p", "_law_value"] (defScope s_l_is_barrier) := ⟨rfl, rfl, rfl, by decide +kernel, rfl, by decide +kernel, by decide +kernel⟩
abbrev s_l_moved : Stmt := topS 61
abbrev nm_l_moved : List Str := ["_law_row", "_law_points_here", "_law_way", "_law_below", "_law_factor", "_law_x", "_law_y", "_law_p"]
theorem sc_l_moved : FnScope nm_l_moved ["_law_row", "_law_points_here"] (defScope s_l_moved) := ⟨rfl, rfl, rfl, by decide +kernel, rfl, by decide +kernel, by decide +kernel⟩
abbrev s_law : Stmt := topS 62
abbrev nm_law : List Str := ["_law_script", "_law_row", "_law_points_here", "_law_turn_here", "_law_p", "_law_a", "_law_b", "_law_far", "_law_value", "_law_inside", "_law_corners", "_law_k", "_law_n", "_law_odd", "_law_bent", "_law_due"]
theorem sc_law : FnScope nm_law ["_law_script"] (defScope s_law) := ⟨rfl, rfl, rfl, by decide +kernel, rfl, by decide +kernel, by decide +kernel⟩
structure Tx (K : PySem.W.Frag) (mg : Str → Option Value) where
  f_is_in : Addr
  d_is_in : FuncData
  F_is_in : Fun K "is_in" "is_in" s_is_in f_is_in d_is_in
  b_is_in : Binds K d_is_in ["value", "least", "most"] []
  g_is_in : mg "is_in" = some (.ref f_is_in)
  f_gcd : Addr
  d_gcd : FuncData
  F_gcd : Fun K "gcd" "gcd" s_gcd f_gcd d_gcd
  b_gcd : Binds K d_gcd ["one", "other"] []
  g_gcd : mg "gcd" = some (.ref f_gcd)
  f_reduced : Addr
  d_reduced : FuncData
  F_reduced : Fun K "reduced" "reduced" s_reduced f_reduced d_reduced
  b_reduced : Binds K d_reduced ["numerator", "denominator"] []
  g_reduced : mg "reduced" = some (.ref f_reduced)
  f_plus : Addr
  d_plus : FuncData
  F_plus : Fun K "plus" "plus" s_plus f_plus d_plus
  b_plus : Binds K d_plus ["one", "other"] []
  g_plus : mg "plus" = some (.ref f_plus)
  f_times : Addr
  d_times : FuncData
  F_times : Fun K "times" "times" s_times f_times d_times
  b_times : Binds K d_times ["one", "other"] []
  g_times : mg "times" = some (.ref f_times)
  f_is_ratio : Addr
  d_is_ratio : FuncData
  F_is_ratio : Fun K "is_ratio" "is_ratio" s_is_ratio f_is_ratio d_is_ratio
  b_is_ratio : Binds K d_is_ratio ["value"] []
  g_is_ratio : mg "is_ratio" = some (.ref f_is_ratio)
  f_sign : Addr
  d_sign : FuncData
  F_sign : Fun K "sign" "sign" s_sign f_sign d_sign
  b_sign : Binds K d_sign ["number"] []
  g_sign : mg "sign" = some (.ref f_sign)
  f_is_point : Addr
  d_is_point : FuncData
  F_is_point : Fun K "is_point" "is_point" s_is_point f_is_point d_is_point
  b_is_point : Binds K d_is_point ["value"] []
  g_is_point : mg "is_point" = some (.ref f_is_point)
  f_need_point : Addr
  d_need_point : FuncData
  F_need_point : Fun K "need_point" "need_point" s_need_point f_need_point d_need_point
  b_need_point : Binds K d_need_point ["value"] []
  g_need_point : mg "need_point" = some (.ref f_need_point)
  f_need_points : Addr
  d_need_points : FuncData
  F_need_points : Fun K "need_points" "need_points" s_need_points f_need_points d_need_points
  b_need_points : Binds K d_need_points ["value"] []
  g_need_points : mg "need_points" = some (.ref f_need_points)
  f_order_of : Addr
  d_order_of : FuncData
  F_order_of : Fun K "order_of" "order_of" s_order_of f_order_of d_order_of
  b_order_of : Binds K d_order_of ["a", "b"] []
  g_order_of : mg "order_of" = some (.ref f_order_of)
  f_common_weight : Addr
  d_common_weight : FuncData
  F_common_weight : Fun K "common_weight" "common_weight" s_common_weight f_common_weight d_common_weight
  b_common_weight : Binds K d_common_weight ["points"] []
  g_common_weight : mg "common_weight" = some (.ref f_common_weight)
  f_scaled : Addr
  d_scaled : FuncData
  F_scaled : Fun K "scaled" "scaled" s_scaled f_scaled d_scaled
  b_scaled : Binds K d_scaled ["points"] []
  g_scaled : mg "scaled" = some (.ref f_scaled)
  f_ranked : Addr
  d_ranked : FuncData
  F_ranked : Fun K "ranked" "ranked" s_ranked f_ranked d_ranked
  b_ranked : Binds K d_ranked ["points"] []
  g_ranked : mg "ranked" = some (.ref f_ranked)
  f_doubled : Addr
  d_doubled : FuncData
  F_doubled : Fun K "doubled" "doubled" s_doubled f_doubled d_doubled
  b_doubled : Binds K d_doubled ["a", "b", "c"] []
  g_doubled : mg "doubled" = some (.ref f_doubled)
  f_turn_of : Addr
  d_turn_of : FuncData
  F_turn_of : Fun K "turn_of" "turn_of" s_turn_of f_turn_of d_turn_of
  b_turn_of : Binds K d_turn_of ["a", "b", "c"] []
  g_turn_of : mg "turn_of" = some (.ref f_turn_of)
  f_is_between : Addr
  d_is_between : FuncData
  F_is_between : Fun K "is_between" "is_between" s_is_between f_is_between d_is_between
  b_is_between : Binds K d_is_between ["a", "b", "p"] []
  g_is_between : mg "is_between" = some (.ref f_is_between)
  f_line_through : Addr
  d_line_through : FuncData
  F_line_through : Fun K "line_through" "line_through" s_line_through f_line_through d_line_through
  b_line_through : Binds K d_line_through ["a", "b"] []
  g_line_through : mg "line_through" = some (.ref f_line_through)
  f_hull_indexes : Addr
  d_hull_indexes : FuncData
  F_hull_indexes : Fun K "hull_indexes" "hull_indexes" s_hull_indexes f_hull_indexes d_hull_indexes
  b_hull_indexes : Binds K d_hull_indexes ["points"] []
  g_hull_indexes : mg "hull_indexes" = some (.ref f_hull_indexes)
  f_hull : Addr
  d_hull : FuncData
  F_hull : Fun K "hull" "hull" s_hull f_hull d_hull
  b_hull : Binds K d_hull ["points"] []
  g_hull : mg "hull" = some (.ref f_hull)
  f_weights_in : Addr
  d_weights_in : FuncData
  F_weights_in : Fun K "weights_in" "weights_in" s_weights_in f_weights_in d_weights_in
  b_weights_in : Binds K d_weights_in ["points", "chosen", "p"] []
  g_weights_in : mg "weights_in" = some (.ref f_weights_in)
  f_along : Addr
  d_along : FuncData
  F_along : Fun K "along" "along" s_along f_along d_along
  b_along : Binds K d_along ["a", "b", "p"] []
  g_along : mg "along" = some (.ref f_along)
  f_barrier : Addr
  d_barrier : FuncData
  F_barrier : Fun K "barrier" "barrier" s_barrier f_barrier d_barrier
  b_barrier : Binds K d_barrier ["points", "corners", "p"] []
  g_barrier : mg "barrier" = some (.ref f_barrier)
  f_raised : Addr
  d_raised : FuncData
  F_raised : Fun K "raised" "raised" s_raised f_raised d_raised
  b_raised : Binds K d_raised ["u", "v", "ends"] []
  g_raised : mg "raised" = some (.ref f_raised)
  f_locate_in_hull : Addr
  d_locate_in_hull : FuncData
  F_locate_in_hull : Fun K "locate_in_hull" "locate_in_hull" s_locate_in_hull f_locate_in_hull d_locate_in_hull
  b_locate_in_hull : Binds K d_locate_in_hull ["points", "p"] []
  g_locate_in_hull : mg "locate_in_hull" = some (.ref f_locate_in_hull)
  f_locate_in : Addr
  d_locate_in : FuncData
  F_locate_in : Fun K "locate_in" "locate_in" s_locate_in f_locate_in d_locate_in
  b_locate_in : Binds K d_locate_in ["points", "p"] []
  g_locate_in : mg "locate_in" = some (.ref f_locate_in)
  f_is_barrier : Addr
  d_is_barrier : FuncData
  F_is_barrier : Fun K "is_barrier" "is_barrier" s_is_barrier f_is_barrier d_is_barrier
  b_is_barrier : Binds K d_is_barrier ["points", "p", "value"] []
  g_is_barrier : mg "is_barrier" = some (.ref f_is_barrier)
  f_is_mixture : Addr
  d_is_mixture : FuncData
  F_is_mixture : Fun K "is_mixture" "is_mixture" s_is_mixture f_is_mixture d_is_mixture
  b_is_mixture : Binds K d_is_mixture ["points", "p", "value"] []
  g_is_mixture : mg "is_mixture" = some (.ref f_is_mixture)
  f_shows_in_hull : Addr
  d_shows_in_hull : FuncData
  F_shows_in_hull : Fun K "shows_in_hull" "shows_in_hull" s_shows_in_hull f_shows_in_hull d_shows_in_hull
  b_shows_in_hull : Binds K d_shows_in_hull ["points", "p", "value"] []
  g_shows_in_hull : mg "shows_in_hull" = some (.ref f_shows_in_hull)
  f_l_taken : Addr
  d_l_taken : FuncData
  F_l_taken : Fun K "_law_taken" "_law_taken" s_l_taken f_l_taken d_l_taken
  b_l_taken : Binds K d_l_taken ["_law_row", "_law_many"] []
  g_l_taken : mg "_law_taken" = some (.ref f_l_taken)
  f_l_pick : Addr
  d_l_pick : FuncData
  F_l_pick : Fun K "_law_pick" "_law_pick" s_l_pick f_l_pick d_l_pick
  b_l_pick : Binds K d_l_pick ["_law_row", "_law_things"] []
  g_l_pick : mg "_law_pick" = some (.ref f_l_pick)
  f_l_signed : Addr
  d_l_signed : FuncData
  F_l_signed : Fun K "_law_signed" "_law_signed" s_l_signed f_l_signed d_l_signed
  b_l_signed : Binds K d_l_signed ["_law_row", "_law_most"] []
  g_l_signed : mg "_law_signed" = some (.ref f_l_signed)
  f_l_grid : Addr
  d_l_grid : FuncData
  F_l_grid : Fun K "_law_grid" "_law_grid" s_l_grid f_l_grid d_l_grid
  b_l_grid : Binds K d_l_grid ["_law_row", "_law_size"] []
  g_l_grid : mg "_law_grid" = some (.ref f_l_grid)
  f_l_points : Addr
  d_l_points : FuncData
  F_l_points : Fun K "_law_points" "_law_points" s_l_points f_l_points d_l_points
  b_l_points : Binds K d_l_points ["_law_row", "_law_least", "_law_most", "_law_size"] []
  g_l_points : mg "_law_points" = some (.ref f_l_points)
  f_l_alike : Addr
  d_l_alike : FuncData
  F_l_alike : Fun K "_law_alike" "_law_alike" s_l_alike f_l_alike d_l_alike
  b_l_alike : Binds K d_l_alike ["_law_found", "_law_due"] []
  g_l_alike : mg "_law_alike" = some (.ref f_l_alike)
  f_l_sign : Addr
  d_l_sign : FuncData
  F_l_sign : Fun K "_law_sign" "_law_sign" s_l_sign f_l_sign d_l_sign
  b_l_sign : Binds K d_l_sign ["_law_number"] []
  g_l_sign : mg "_law_sign" = some (.ref f_l_sign)
  f_l_doubled : Addr
  d_l_doubled : FuncData
  F_l_doubled : Fun K "_law_doubled" "_law_doubled" s_l_doubled f_l_doubled d_l_doubled
  b_l_doubled : Binds K d_l_doubled ["_law_a", "_law_b", "_law_c"] []
  g_l_doubled : mg "_law_doubled" = some (.ref f_l_doubled)
  f_l_turn : Addr
  d_l_turn : FuncData
  F_l_turn : Fun K "_law_turn" "_law_turn" s_l_turn f_l_turn d_l_turn
  b_l_turn : Binds K d_l_turn ["_law_a", "_law_b", "_law_c"] []
  g_l_turn : mg "_law_turn" = some (.ref f_l_turn)
  f_l_order : Addr
  d_l_order : FuncData
  F_l_order : Fun K "_law_order" "_law_order" s_l_order f_l_order d_l_order
  b_l_order : Binds K d_l_order ["_law_a", "_law_b"] []
  g_l_order : mg "_law_order" = some (.ref f_l_order)
  f_l_between : Addr
  d_l_between : FuncData
  F_l_between : Fun K "_law_between" "_law_between" s_l_between f_l_between d_l_between
  b_l_between : Binds K d_l_between ["_law_a", "_law_b", "_law_p"] []
  g_l_between : mg "_law_between" = some (.ref f_l_between)
  f_l_hull : Addr
  d_l_hull : FuncData
  F_l_hull : Fun K "_law_hull" "_law_hull" s_l_hull f_l_hull d_l_hull
  b_l_hull : Binds K d_l_hull ["_law_points_here"] []
  g_l_hull : mg "_law_hull" = some (.ref f_l_hull)
  f_l_gcd : Addr
  d_l_gcd : FuncData
  F_l_gcd : Fun K "_law_gcd" "_law_gcd" s_l_gcd f_l_gcd d_l_gcd
  b_l_gcd : Binds K d_l_gcd ["_law_one", "_law_other"] []
  g_l_gcd : mg "_law_gcd" = some (.ref f_l_gcd)
  f_l_lowest : Addr
  d_l_lowest : FuncData
  F_l_lowest : Fun K "_law_lowest" "_law_lowest" s_l_lowest f_l_lowest d_l_lowest
  b_l_lowest : Binds K d_l_lowest ["_law_x", "_law_y", "_law_w"] []
  g_l_lowest : mg "_law_lowest" = some (.ref f_l_lowest)
  f_l_point : Addr
  d_l_point : FuncData
  F_l_point : Fun K "_law_point" "_law_point" s_l_point f_l_point d_l_point
  b_l_point : Binds K d_l_point ["_law_row", "_law_size"] []
  g_l_point : mg "_law_point" = some (.ref f_l_point)
  f_l_ratio : Addr
  d_l_ratio : FuncData
  F_l_ratio : Fun K "_law_ratio" "_law_ratio" s_l_ratio f_l_ratio d_l_ratio
  b_l_ratio : Binds K d_l_ratio ["_law_numerator", "_law_denominator"] []
  g_l_ratio : mg "_law_ratio" = some (.ref f_l_ratio)
  f_l_plus : Addr
  d_l_plus : FuncData
  F_l_plus : Fun K "_law_plus" "_law_plus" s_l_plus f_l_plus d_l_plus
  b_l_plus : Binds K d_l_plus ["_law_one", "_law_other"] []
  g_l_plus : mg "_law_plus" = some (.ref f_l_plus)
  f_l_times : Addr
  d_l_times : FuncData
  F_l_times : Fun K "_law_times" "_law_times" s_l_times f_l_times d_l_times
  b_l_times : Binds K d_l_times ["_law_one", "_law_other"] []
  g_l_times : mg "_law_times" = some (.ref f_l_times)
  f_l_is_mixture : Addr
  d_l_is_mixture : FuncData
  F_l_is_mixture : Fun K "_law_is_mixture" "_law_is_mixture" s_l_is_mixture f_l_is_mixture d_l_is_mixture
  b_l_is_mixture : Binds K d_l_is_mixture ["_law_points_here", "_law_p", "_law_value"] []
  g_l_is_mixture : mg "_law_is_mixture" = some (.ref f_l_is_mixture)
  f_l_is_barrier : Addr
  d_l_is_barrier : FuncData
  F_l_is_barrier : Fun K "_law_is_barrier" "_law_is_barrier" s_l_is_barrier f_l_is_barrier d_l_is_barrier
  b_l_is_barrier : Binds K d_l_is_barrier ["_law_points_here", "_law_p", "_law_value"] []
  g_l_is_barrier : mg "_law_is_barrier" = some (.ref f_l_is_barrier)
  f_l_moved : Addr
  d_l_moved : FuncData
  F_l_moved : Fun K "_law_moved" "_law_moved" s_l_moved f_l_moved d_l_moved
  b_l_moved : Binds K d_l_moved ["_law_row", "_law_points_here"] []
  g_l_moved : mg "_law_moved" = some (.ref f_l_moved)
  f_law : Addr
  d_law : FuncData
  F_law : Fun K "law" "law" s_law f_law d_law
  b_law : Binds K d_law ["_law_script"] []
  g_law : mg "law" = some (.ref f_law)
  z_abs : mg "abs" = none
  z_bool : mg "bool" = none
  z_int : mg "int" = none
  z_isinstance : mg "isinstance" = none
  z_len : mg "len" = none
  z_list : mg "list" = none
  z_max : mg "max" = none
  z_min : mg "min" = none
  z_range : mg "range" = none
  z_set : mg "set" = none
  z_sorted : mg "sorted" = none
  z_str : mg "str" = none
  z_tuple : mg "tuple" = none
  z_zip : mg "zip" = none
  c_ranked : Addr
  P_ranked : Addr
  C_ranked : FunC K "ranked" "ranked" s_ranked f_ranked d_ranked c_ranked
  t_LARGEST : Tok
  m_LARGEST : mg "LARGEST" = some (.int 1000000000000 t_LARGEST)
  t_MOST_POINTS : Tok
  m_MOST_POINTS : mg "MOST_POINTS" = some (.int 40 t_MOST_POINTS)
/-- the one table that grows: that of ranked's code, by its lambda -/
def lamQ : Str := ("ranked" : Str) ++ ".<locals>." ++ "<lambda>"
abbrev tabs {K : PySem.W.Frag} {mg : Str → Option Value} (T : Tx K mg) : List (Addr × Str) := [(T.P_ranked, lamQ)]
end Hk
/-! ## G1 -/
/-! the plane: points, orientation, order, the monotone chain -/
namespace Hk
structure Pt where
  x : Int
  y : Int
  w : Int
  deriving DecidableEq

def det (a b c : Pt) : Int := a.x * (b.y * c.w - c.y * b.w) - a.y * (b.x * c.w - c.x * b.w) + a.w * (b.x * c.y - c.x * b.y)

theorem pos_of {x k r : Int} (e : x * k = r) (hk : 0 < k) (hr : 0 < r) : 0 < x := by
  rcases Int.lt_or_le 0 x with h | h
  · exact h
  · have h1 : x * k ≤ 0 * k := Int.mul_le_mul_of_nonneg_right h (Int.le_of_lt hk)
    omega
theorem nonneg_of {x k r : Int} (e : x * k = r) (hk : 0 < k) (hr : 0 ≤ r) : 0 ≤ x := by
  rcases Int.lt_or_le x 0 with h | h
  · have h1 : x * k < 0 * k := Int.mul_lt_mul_of_pos_right h hk
    omega
  · exact h
theorem zero_of {x k r : Int} (e : x * k = r) (hk : 0 < k) (hr : r = 0) : x = 0 := by
  have h1 := nonneg_of (x := x) e hk (by omega)
  have h2 := nonneg_of (x := -x) (k := k) (r := -r) (by rw [← e]; exact Int.neg_mul x k) hk (by omega)
  omega

theorem det_cyc (a b c : Pt) : det b c a = det a b c := by unfold det; grind
theorem det_cyc2 (a b c : Pt) : det c a b = det a b c := by unfold det; grind
theorem det_sw (a b c : Pt) : det b a c = - det a b c := by unfold det; grind
theorem det_sw2 (a b c : Pt) : det a c b = - det a b c := by unfold det; grind
theorem det_aab (a b : Pt) : det a a b = 0 := by unfold det; grind
theorem det_aba (a b : Pt) : det a b a = 0 := by unfold det; grind
theorem det_abb (a b : Pt) : det a b b = 0 := by unfold det; grind
/-- Grassmann, Pluecker -/
theorem gp (a b c d e : Pt) : det a b d * det a c e = det a b c * det a d e + det a b e * det a c d := by
  unfold det; grind
/-- Cramer under a linear form det m n -/
theorem cram (m n a b c p : Pt) : det m n p * det a b c = det m n a * det p b c + det m n b * det a p c + det m n c * det a b p := by
  unfold det; grind
theorem cram_x (a b c p : Pt) : p.x * det a b c = a.x * det p b c + b.x * det a p c + c.x * det a b p := by unfold det; grind
theorem cram_y (a b c p : Pt) : p.y * det a b c = a.y * det p b c + b.y * det a p c + c.y * det a b p := by unfold det; grind
theorem cram_w (a b c p : Pt) : p.w * det a b c = a.w * det p b c + b.w * det a p c + c.w * det a b p := by unfold det; grind

/-! ### slopes along a linear order det v -/
section
variable {v a b c d p q : Pt}
/-- a < b < c < d, two left turns: abc, bcd give abd, acd -/
theorem slope1 (bc : 0 < det v b c) (bd : 0 < det v b d) (ab : 0 < det v a b) (h1 : 0 < det a b c) (h2 : 0 < det b c d) : 0 < det a b d := by
  have h3 := Int.mul_pos h1 bd
  have h4 := Int.mul_pos ab h2
  have e := gp b a c d v
  refine pos_of (x := det a b d) (k := det v b c) (r := det a b c * det v b d + det v a b * det b c d) ?_ bc (by omega)
  unfold det; grind
theorem slope2 (ab : 0 < det v a b) (bc : 0 < det v b c) (ac : 0 < det v a c) (cd : 0 < det v c d) (h1 : 0 < det a b c) (h2 : 0 < det b c d) : 0 < det a c d := by
  have h3 := Int.mul_pos h2 ac
  have h4 := Int.mul_pos h1 cd
  refine pos_of (x := det a c d) (k := det v b c) (r := det b c d * det v a c + det a b c * det v c d) ?_ bc (by omega)
  unfold det; grind
/-- around a, all ahead of it in the order -/
theorem round (ab : 0 < det v a b) (ac : 0 < det v a c) (ad : 0 < det v a d) (h1 : 0 < det a b c) (h2 : 0 < det a c d) : 0 < det a b d := by
  have h3 := Int.mul_pos h1 ad
  have h4 := Int.mul_pos h2 ab
  refine pos_of (x := det a b d) (k := det v a c) (r := det a b c * det v a d + det a c d * det v a b) ?_ ac (by omega)
  unfold det; grind
/-- a new edge h p: q behind h, seen from the popped edge h e -/
theorem edge_hi {h e : Pt} (he : 0 < det v h e) (hp : 0 < det v h p) (hq : 0 ≤ det v h q) (h1 : 0 ≤ det h e q) (h2 : det h e p ≤ 0) : 0 ≤ det h p q := by
  have h3 := Int.mul_nonneg h1 (Int.le_of_lt hp)
  have h4 := Int.mul_nonneg (show 0 ≤ - det h e p by omega) hq
  refine nonneg_of (x := det h p q) (k := det v h e) (r := det h e q * det v h p + -det h e p * det v h q) ?_ he (by omega)
  unfold det; grind
/-- .. q ahead of h, seen from the kept edge g h -/
theorem edge_lo {g h : Pt} (gh : 0 < det v g h) (hp : 0 < det v h p) (qh : 0 ≤ det v q h) (h1 : 0 ≤ det g h q) (h2 : 0 < det g h p) : 0 ≤ det h p q := by
  have h3 := Int.mul_nonneg h1 (Int.le_of_lt hp)
  have h4 := Int.mul_nonneg (Int.le_of_lt h2) qh
  refine nonneg_of (x := det h p q) (k := det v g h) (r := det g h q * det v h p + det g h p * det v q h) ?_ gh (by omega)
  unfold det; grind
theorem ord_trans (v : Pt) (hv : v.w = 0) {a b c : Pt} (ha : 0 < a.w) (hb : 0 < b.w) (hc : 0 < c.w) (h1 : 0 < det v a b) (h2 : 0 < det v b c) : 0 < det v a c := by
  have h3 := Int.mul_pos h1 hc
  have h4 := Int.mul_pos h2 ha
  refine pos_of (x := det v a c) (k := b.w) (r := det v a b * c.w + det v b c * a.w) ?_ hb (by omega)
  unfold det; rw [hv]; grind
end

/-! ### the chain -/
def popTo (p : Pt) : List Pt → List Pt
  | h1 :: h2 :: r => if det h2 h1 p ≤ 0 then popTo p (h2 :: r) else h1 :: h2 :: r
  | l => l
def chainS : List Pt → List Pt → List Pt
  | st, [] => st
  | st, p :: r => chainS (p :: popTo p st) r
abbrev chain (l : List Pt) : List Pt := chainS [] l

def Third (h1 h2 : Pt) : List Pt → Prop
  | [] => True
  | h3 :: _ => 0 < det h3 h2 h1
/-- a stack (top first) over the points S, in the order of v -/
def Stk (v : Pt) (S : Pt → Prop) : List Pt → Prop
  | [] => False
  | [h] => S h ∧ ∀ q, S q → 0 ≤ det v h q
  | h1 :: h2 :: r => S h1 ∧ 0 < det v h2 h1 ∧ (∀ q, S q → 0 ≤ det h2 h1 q) ∧ Third h1 h2 r ∧ Stk v S (h2 :: r)

section
variable {v : Pt} {S : Pt → Prop} {p : Pt}
theorem Stk.mem : ∀ {st : List Pt}, Stk v S st → ∀ h ∈ st, S h
  | [], h, _, _ => h.elim
  | [h1], h, x, hx => by
    obtain ⟨h0, _⟩ := h
    rcases List.mem_cons.mp hx with rfl | hx
    · exact h0
    · cases hx
  | h1 :: h2 :: r, h, x, hx => by
    obtain ⟨h0, _, _, _, h4⟩ := h
    rcases List.mem_cons.mp hx with rfl | hx
    · exact h0
    · exact Stk.mem h4 x hx
/-- the edges below a good top edge see p -/
theorem Stk.grow : ∀ {st : List Pt} (hs : Stk v S st) (hp : ∀ q, S q → 0 < det v q p) (ht : ∀ h1 h2 r, st = h1 :: h2 :: r → 0 < det h2 h1 p), Stk v (fun q => S q ∨ q = p) st
  | [], h, _, _ => h.elim
  | [h1], h, hp, _ => ⟨.inl h.1, fun q hq => by
      rcases hq with hq | rfl
      · exact h.2 q hq
      · exact Int.le_of_lt (hp h1 h.1)⟩
  | h1 :: h2 :: r, h, hp, ht => by
    obtain ⟨h0, h3, h4, h5, h6⟩ := h
    have htop := ht h1 h2 r rfl
    have hS := Stk.mem h6
    refine ⟨.inl h0, h3, fun q hq => ?_, h5, Stk.grow h6 hp fun a b r' e => ?_⟩
    · rcases hq with hq | rfl
      · exact h4 q hq
      · exact Int.le_of_lt htop
    · obtain ⟨rfl, e2⟩ := List.cons.inj e
      subst e2
      have hb : S b := hS b (by simp)
      have k5 : 0 < det b h2 h1 := h5
      have k6 : Stk v S (h2 :: b :: r') := h6
      exact slope1 (v := v) h3 (hp h2 (hS h2 (by simp))) k6.2.1 k5 htop
theorem popTo_ok : ∀ {st : List Pt} (hs : Stk v S st) (hp : ∀ q, S q → 0 < det v q p) (hT : ∀ h1 r, st = h1 :: r → ∀ q, S q → 0 ≤ det v h1 q → 0 ≤ det h1 p q),
    Stk v (fun q => S q ∨ q = p) (p :: popTo p st)
  | [], h, _, _ => h.elim
  | [h1], h, hp, hT => by
    show Stk v _ (p :: h1 :: [])
    refine ⟨.inr rfl, hp h1 h.1, fun q hq => ?_, trivial, Stk.grow h hp (fun a b r e => by cases e)⟩
    rcases hq with hq | rfl
    · exact hT h1 [] rfl q hq (h.2 q hq)
    · rw [det_abb]; omega
  | h1 :: h2 :: r, h, hp, hT => by
    have hh := h
    obtain ⟨h0, h3, h4, h5, h6⟩ := h
    have hS := Stk.mem h6
    have s2 : S h2 := hS h2 (by simp)
    unfold popTo
    by_cases hc : det h2 h1 p ≤ 0
    · rw [if_pos hc]
      refine popTo_ok h6 hp fun a r' e q hq hle => ?_
      obtain ⟨rfl, _⟩ := List.cons.inj e
      exact edge_hi h3 (hp h2 s2) hle (h4 q hq) hc
    · rw [if_neg hc]
      have hc' : 0 < det h2 h1 p := by omega
      refine ⟨.inr rfl, hp h1 h0, fun q hq => ?_, hc', Stk.grow hh hp (fun a b r' e => by
        obtain ⟨rfl, e2⟩ := List.cons.inj e
        obtain ⟨rfl, _⟩ := List.cons.inj e2
        exact hc')⟩
      rcases hq with hq | rfl
      · rcases Int.lt_or_le (det v h1 q) 0 with hl | hl
        · refine edge_lo h3 (hp h1 h0) ?_ (h4 q hq) hc'
          have e := det_sw2 v h1 q
          omega
        · exact hT h1 _ rfl q hq hl
      · rw [det_abb]; omega
theorem popTo_ne : ∀ (st : List Pt), st ≠ [] → popTo p st ≠ []
  | [], h => absurd rfl h
  | [h1], _ => by simp [popTo]
  | h1 :: h2 :: r, _ => by
    unfold popTo
    split
    · exact popTo_ne (h2 :: r) (by simp)
    · simp
theorem popTo_last : ∀ (st : List Pt), (popTo p st).getLast? = st.getLast?
  | [] => by simp [popTo]
  | [h1] => by simp [popTo]
  | h1 :: h2 :: r => by
    unfold popTo
    split
    · rw [popTo_last (h2 :: r)]; simp
    · rfl
/-- the chain over a rising list -/
theorem chainS_ok : ∀ (l : List Pt) (st : List Pt) (S : Pt → Prop), Stk v S st → (∀ q, S q → ∀ p ∈ l, 0 < det v q p) → l.Pairwise (fun a b => 0 < det v a b) →
    (∀ h1 r, st = h1 :: r → ∀ q, S q → q = h1 ∨ 0 < det v q h1) → Stk v (fun q => S q ∨ q ∈ l) (chainS st l)
  | [], st, S, h, _, _, _ => by
    have e : (fun q => S q ∨ q ∈ ([] : List Pt)) = S := by
      funext q
      exact propext ⟨fun h => h.elim id (fun h => by cases h), .inl⟩
    rw [e]
    exact h
  | p :: r, st, S, h, hl, hs, ht => by
    have hp : ∀ q, S q → 0 < det v q p := fun q hq => hl q hq p (by simp)
    obtain ⟨s1, s2⟩ := List.pairwise_cons.mp hs
    have k : Stk v (fun q => S q ∨ q = p) (p :: popTo p st) := popTo_ok h hp fun h1 r' e q hq hle => by
      rcases ht h1 r' e q hq with rfl | e1
      · rw [det_aba]; omega
      · have := det_sw2 v h1 q
        omega
    have := chainS_ok r (p :: popTo p st) (fun q => S q ∨ q = p) k (fun q hq x hx => by
      rcases hq with hq | rfl
      · exact hl q hq x (List.mem_cons_of_mem _ hx)
      · exact s1 x hx) s2 (fun h1 r' e q hq => by
      obtain ⟨rfl, _⟩ := List.cons.inj e
      rcases hq with hq | rfl
      · exact .inr (hp q hq)
      · exact .inl rfl)
    have e : (fun q => (S q ∨ q = p) ∨ q ∈ r) = (fun q => S q ∨ q ∈ p :: r) := by
      funext q
      exact propext ⟨fun h => by
        rcases h with (h | h) | h
        · exact .inl h
        · exact .inr (by rw [h]; simp)
        · exact .inr (List.mem_cons_of_mem _ h), fun h => by
        rcases h with h | h
        · exact .inl (.inl h)
        · rcases List.mem_cons.mp h with h | h
          · exact .inl (.inr h)
          · exact .inr h⟩
    rw [e] at this
    exact this
theorem chain_ok {a : Pt} {l : List Pt} (h : (a :: l).Pairwise (fun a b => 0 < det v a b)) : Stk v (fun q => q ∈ a :: l) (chain (a :: l)) := by
  obtain ⟨h1, h2⟩ := List.pairwise_cons.mp h
  have k := chainS_ok (v := v) l [a] (fun q => q = a) ⟨rfl, fun q hq => by rw [hq, det_abb]; omega⟩ (fun q hq p hp => by rw [hq]; exact h1 p hp) h2
    (fun x r e q hq => by
      obtain ⟨rfl, _⟩ := List.cons.inj e
      exact .inl hq)
  have e : (fun q => q = a ∨ q ∈ l) = (fun q => q ∈ a :: l) := by
    funext q
    exact propext List.mem_cons.symm
  rw [e] at k
  exact k
theorem chainS_head : ∀ (l : List Pt) (st : List Pt), l ≠ [] → (chainS st l).head? = l.getLast?
  | [], _, h => absurd rfl h
  | [p], st, _ => rfl
  | p :: a :: t, st, _ => by
    show (chainS (p :: popTo p st) (a :: t)).head? = _
    rw [chainS_head (a :: t) (p :: popTo p st) (by simp)]
    simp
theorem chainS_last : ∀ (l : List Pt) (st : List Pt), st ≠ [] → (chainS st l).getLast? = st.getLast?
  | [], st, _ => rfl
  | p :: r, st, h => by
    show (chainS (p :: popTo p st) r).getLast? = _
    rw [chainS_last r (p :: popTo p st) (by simp), ← popTo_last (p := p) st]
    cases e : popTo p st with
    | nil => exact absurd e (popTo_ne st h)
    | cons a t => simp
end

/-! ### places -/
def gt (l : List Pt) (i : Nat) : Pt := l.getD i ⟨0, 0, 1⟩
theorem gt_lt {l : List Pt} {i : Nat} (h : i < l.length) : gt l i = l[i] := by
  unfold gt
  rw [List.getD_eq_getElem?_getD, List.getElem?_eq_getElem h]; rfl
theorem gt_get {l : List Pt} {i : Nat} (h : i < l.length) : l[i]? = some (gt l i) := by
  rw [gt_lt h, List.getElem?_eq_getElem h]
theorem gt_mem {l : List Pt} {i : Nat} (h : i < l.length) : gt l i ∈ l := by
  rw [gt_lt h]; exact List.getElem_mem h
theorem gt_of_mem {l : List Pt} {p : Pt} (h : p ∈ l) : ∃ i, i < l.length ∧ gt l i = p := by
  obtain ⟨i, hi, e⟩ := List.mem_iff_getElem.mp h
  exact ⟨i, hi, by rw [gt_lt hi]; exact e⟩
theorem gt_app {l r : List Pt} {i : Nat} (h : i < l.length) : gt (l ++ r) i = gt l i := by
  unfold gt
  rw [List.getD_eq_getElem?_getD, List.getD_eq_getElem?_getD, List.getElem?_append_left h]
theorem gt_app2 {l r : List Pt} {i : Nat} (h : l.length ≤ i) : gt (l ++ r) i = gt r (i - l.length) := by
  unfold gt
  rw [List.getD_eq_getElem?_getD, List.getD_eq_getElem?_getD, List.getElem?_append_right h]
structure Asc (v : Pt) (S : Pt → Prop) (l : List Pt) : Prop where
  up : ∀ i, i + 1 < l.length → 0 < det v (gt l i) (gt l (i + 1))
  edge : ∀ i, i + 1 < l.length → ∀ q, S q → 0 ≤ det (gt l i) (gt l (i + 1)) q
  trn : ∀ i, i + 2 < l.length → 0 < det (gt l i) (gt l (i + 1)) (gt l (i + 2))
  mem : ∀ i, i < l.length → S (gt l i)
theorem Stk.asc {v : Pt} {S : Pt → Prop} : ∀ {st : List Pt}, Stk v S st → Asc v S st.reverse
  | [], h => h.elim
  | [h1], h => by
    refine ⟨fun i hi => ?_, fun i hi => ?_, fun i hi => ?_, fun i hi => ?_⟩
    · simp at hi
    · simp at hi
    · simp at hi
    · exact Stk.mem h _ (by
        have := gt_mem hi
        exact List.mem_reverse.mp this)
  | h1 :: h2 :: r, h => by
    have hm := Stk.mem h
    obtain ⟨_, h3, h4, h5, h6⟩ := h
    have k := Stk.asc h6
    have e : (h1 :: h2 :: r).reverse = (h2 :: r).reverse ++ [h1] := by rw [List.reverse_cons]
    have e2 : (h2 :: r).reverse = r.reverse ++ [h2] := by rw [List.reverse_cons]
    have ln : ((h2 :: r).reverse).length = r.length + 1 := by simp
    have gl : gt (h2 :: r).reverse r.length = h2 := by
      rw [e2, gt_app2 (by simp)]
      simp [gt]
    rw [e]
    have gn : gt ((h2 :: r).reverse ++ [h1]) (r.length + 1) = h1 := by
      rw [gt_app2 (by rw [ln]; exact Nat.le_refl _), ln]
      simp [gt]
    have gm : ∀ i, i < r.length + 1 → gt ((h2 :: r).reverse ++ [h1]) i = gt (h2 :: r).reverse i := fun i hi => gt_app (by rw [ln]; exact hi)
    refine ⟨fun i hi => ?_, fun i hi q hq => ?_, fun i hi => ?_, fun i hi => ?_⟩
    · rw [List.length_append, ln] at hi
      simp only [List.length_cons, List.length_nil] at hi
      rw [gm i (by omega)]
      by_cases hc : i + 1 < r.length + 1
      · rw [gm _ hc]
        exact k.up i (by rw [ln]; exact hc)
      · have : i = r.length := by omega
        subst this
        rw [gn, gl]
        exact h3
    · rw [List.length_append, ln] at hi
      simp only [List.length_cons, List.length_nil] at hi
      rw [gm i (by omega)]
      by_cases hc : i + 1 < r.length + 1
      · rw [gm _ hc]
        exact k.edge i (by rw [ln]; exact hc) q hq
      · have : i = r.length := by omega
        subst this
        rw [gn, gl]
        exact h4 q hq
    · rw [List.length_append, ln] at hi
      simp only [List.length_cons, List.length_nil] at hi
      rw [gm i (by omega), gm (i + 1) (by omega)]
      by_cases hc : i + 2 < r.length + 1
      · rw [gm _ hc]
        exact k.trn i (by rw [ln]; exact hc)
      · cases r with
        | nil =>
          simp only [List.length_nil] at hi
          omega
        | cons h3' r' =>
          have : i = r'.length := by simp at hi hc; omega
          subst this
          have hg : gt (h2 :: h3' :: r').reverse r'.length = h3' := by
            rw [List.reverse_cons, gt_app (by simp), List.reverse_cons, gt_app2 (by simp)]
            simp [gt]
          have hg2 : gt (h2 :: h3' :: r').reverse (r'.length + 1) = h2 := gl
          have hg3 : gt ((h2 :: h3' :: r').reverse ++ [h1]) (r'.length + 2) = h1 := gn
          rw [hg, hg2, hg3]
          exact h5
    · have := gt_mem hi
      exact hm _ (List.mem_reverse.mp (by rw [e]; exact this))

/-! ### a closed walk: up along the lower chain, back along the upper one -/
structure Poly (v : Pt) (S : Pt → Prop) (c : Nat → Pt) (s m : Nat) : Prop where
  vw : v.w = 0
  pw : ∀ q, S q → 0 < q.w
  s1 : 1 ≤ s
  sm : s < m
  close : c m = c 0
  mem : ∀ i, i ≤ m → S (c i)
  edge : ∀ i, i < m → ∀ q, S q → 0 ≤ det (c i) (c (i + 1)) q
  lo : ∀ i, i < s → 0 < det v (c i) (c (i + 1))
  hi : ∀ i, s ≤ i → i < m → 0 < det v (c (i + 1)) (c i)
  tlo : ∀ i, i + 2 ≤ s → 0 < det (c i) (c (i + 1)) (c (i + 2))
  thi : ∀ i, s ≤ i → i + 2 ≤ m → 0 < det (c i) (c (i + 1)) (c (i + 2))
section
variable {v : Pt} {S : Pt → Prop} {c : Nat → Pt} {s m : Nat}
theorem Poly.lo_lt (p : Poly v S c s m) {i : Nat} : ∀ {j : Nat}, i < j → j ≤ s → 0 < det v (c i) (c j)
  | 0, h, _ => absurd h (Nat.not_lt_zero _)
  | j + 1, h, hs => by
    have e1 := p.lo j (by omega)
    by_cases hc : i = j
    · rw [hc]; exact e1
    · have e2 := Poly.lo_lt p (i := i) (j := j) (by omega) (by omega)
      have := p.sm
      exact ord_trans v p.vw (p.pw _ (p.mem i (by omega))) (p.pw _ (p.mem j (by omega))) (p.pw _ (p.mem (j + 1) (by omega))) e2 e1
theorem Poly.hi_lt (p : Poly v S c s m) {i : Nat} (hs : s ≤ i) : ∀ {j : Nat}, i < j → j ≤ m → 0 < det v (c j) (c i)
  | 0, h, _ => absurd h (Nat.not_lt_zero _)
  | j + 1, h, hm => by
    have e1 := p.hi j (by omega) (by omega)
    by_cases hc : i = j
    · rw [hc]; exact e1
    · have e2 := Poly.hi_lt p hs (j := j) (by omega) (by omega)
      exact ord_trans v p.vw (p.pw _ (p.mem (j + 1) (by omega))) (p.pw _ (p.mem j (by omega))) (p.pw _ (p.mem i (by omega))) e1 e2
/-- c 0 is least -/
theorem Poly.least (p : Poly v S c s m) {i : Nat} (h : 0 < i) (hm : i < m) : 0 < det v (c 0) (c i) := by
  by_cases hc : i ≤ s
  · exact p.lo_lt h hc
  · have := p.hi_lt (i := i) (j := m) (by omega) hm (Nat.le_refl _)
    rw [p.close] at this
    exact this
theorem Poly.lo3 (p : Poly v S c s m) {i : Nat} : ∀ {k : Nat}, i < k → k + 1 ≤ s → 0 < det (c i) (c k) (c (k + 1))
  | 0, h, _ => absurd h (Nat.not_lt_zero _)
  | k + 1, h, hs => by
    have t := p.tlo k (by omega)
    by_cases hc : i = k
    · rw [hc]; exact t
    · have ih := Poly.lo3 p (i := i) (k := k) (by omega) (by omega)
      exact slope2 (v := v) (p.lo_lt (by omega) (by omega)) (p.lo_lt (by omega) (by omega)) (p.lo_lt (by omega) (by omega)) (p.lo_lt (by omega) (by omega)) ih t
theorem Poly.hi3 (p : Poly v S c s m) {k : Nat} (hs : s ≤ k) : ∀ {d : Nat}, k + 1 + d + 1 = m → 0 < det (c k) (c (k + 1)) (c m)
  | 0, h => by
    have t := p.thi k hs (by omega)
    have e : k + 2 = m := by omega
    rw [e] at t
    exact t
  | d + 1, h => by
    have ih := Poly.hi3 p (k := k + 1) (by omega) (d := d) (by omega)
    have t := p.thi k hs (by omega)
    have vv : ∀ a b : Pt, det ⟨-v.x, -v.y, -v.w⟩ a b = det v b a := fun a b => by
      have e : det ⟨-v.x, -v.y, -v.w⟩ a b = - det v a b := by
        unfold det; grind
      rw [e, det_sw2 v b a]; omega
    refine slope1 (v := ⟨-v.x, -v.y, -v.w⟩) (b := c (k + 1)) (c := c (k + 2)) ?_ ?_ ?_ t ih
    · rw [vv]; exact p.hi_lt (by omega) (by omega) (by omega)
    · rw [vv]; exact p.hi_lt (by omega) (by omega) (by omega)
    · rw [vv]; exact p.hi_lt (by omega) (by omega) (by omega)
/-- the fan around c 0 -/
theorem Poly.fan (p : Poly v S c s m) {k : Nat} (h : 1 ≤ k) (hm : k + 1 < m) : 0 < det (c 0) (c k) (c (k + 1)) := by
  by_cases hc : k + 1 ≤ s
  · exact p.lo3 (by omega) hc
  · have := p.hi3 (k := k) (by omega) (d := m - k - 2) (by omega)
    rw [p.close, det_cyc2 (c k) (c (k + 1)) (c 0) |>.symm] at this
    exact this
theorem Poly.fan2 (p : Poly v S c s m) {j : Nat} (h : 1 ≤ j) : ∀ {k : Nat}, j < k → k < m → 0 < det (c 0) (c j) (c k)
  | 0, h, _ => absurd h (Nat.not_lt_zero _)
  | k + 1, hk, hm => by
    have f := p.fan (k := k) (by omega) hm
    by_cases hc : j = k
    · rw [hc]; exact f
    · have ih := Poly.fan2 p h (k := k) (by omega) (by omega)
      exact round (v := v) (p.least (by omega) (by omega)) (p.least (by omega) (by omega)) (p.least (by omega) (by omega)) ih f
/-- b between a and d on a line, positive weights, under a linear form m n -/
theorem col (m n z a b d : Pt) (h : det a b d = 0) : det m n b * det z a d = det m n a * det z b d + det m n d * det z a b := by
  have e := cram m n a b d z
  unfold det at *; grind
theorem Poly.strict (p : Poly v S c s m) {k : Nat} (hk : 1 ≤ k) (hm : k + 1 < m) : 0 < det (c (k - 1)) (c k) (c (k + 1)) := by
  have ek : k - 1 + 1 = k := by omega
  have ek2 : k - 1 + 2 = k + 1 := by omega
  by_cases h1 : k + 1 ≤ s
  · have t := p.tlo (k - 1) (by omega)
    rw [ek, ek2] at t
    exact t
  · by_cases h2 : s ≤ k - 1
    · have t := p.thi (k - 1) h2 (by omega)
      rw [ek, ek2] at t
      exact t
    · have hs : k = s := by omega
      have hs1 := p.s1
      by_cases h3 : k = 1
      · have t := p.fan2 (j := 1) (k := 2) (by omega) (by omega) (by omega)
        rw [h3]
        exact t
      · have e0 := p.edge (k - 1) (by omega) (c (k + 1)) (p.mem _ (by omega))
        rw [ek] at e0
        rcases Int.lt_or_le 0 (det (c (k - 1)) (c k) (c (k + 1))) with g | g
        · exact g
        · exfalso
          have z : det (c (k - 1)) (c k) (c (k + 1)) = 0 := by omega
          have f1 := p.fan2 (j := k) (k := k + 1) (by omega) (by omega) (by omega)
          have f2 := p.fan2 (j := k - 1) (k := k) (by omega) (by omega) (by omega)
          have e := col v (c k) (c 0) (c (k - 1)) (c k) (c (k + 1)) z
          rw [det_abb] at e
          have l1 := p.lo (k - 1) (by omega)
          rw [ek] at l1
          have l2 := p.hi k (by omega) (by omega)
          have m1 := Int.mul_pos l1 f1
          have m2 := Int.mul_pos l2 f2
          rw [det_sw2 v (c (k - 1)) (c k), det_sw2 v (c (k + 1)) (c k)] at e
          have e1 : -det v (c (k - 1)) (c k) * det (c 0) (c k) (c (k + 1)) = -(det v (c (k - 1)) (c k) * det (c 0) (c k) (c (k + 1))) := Int.neg_mul _ _
          have e2 : -det v (c (k + 1)) (c k) * det (c 0) (c (k - 1)) (c k) = -(det v (c (k + 1)) (c k) * det (c 0) (c (k - 1)) (c k)) := Int.neg_mul _ _
          rw [e1, e2] at e
          omega
theorem Poly.next (p : Poly v S c s m) {i k : Nat} (hi : 1 ≤ i) (hk : i < k) (hm : k + 1 < m) : 0 < det (c i) (c k) (c (k + 1)) := by
  by_cases h1 : i = k - 1
  · have t := p.strict (k := k) (by omega) hm
    rw [h1]
    exact t
  · have e0 := p.edge k (by omega) (c i) (p.mem _ (by omega))
    rw [det_cyc (c i) (c k) (c (k + 1))] at e0
    rcases Int.lt_or_le 0 (det (c i) (c k) (c (k + 1))) with g | g
    · exact g
    · exfalso
      have z : det (c i) (c k) (c (k + 1)) = 0 := by omega
      have e := col (c (k - 1)) (c k) (c 0) (c i) (c k) (c (k + 1)) z
      rw [det_abb] at e
      have ek : k - 1 + 1 = k := by omega
      have f1 := p.edge (k - 1) (by omega) (c i) (p.mem _ (by omega))
      rw [ek] at f1
      have f2 := p.strict (k := k) (by omega) hm
      have f3 := p.fan2 (j := k) (k := k + 1) (by omega) (by omega) (by omega)
      have f4 := p.fan2 (j := i) (k := k) (by omega) (by omega) (by omega)
      have m1 := Int.mul_nonneg f1 (Int.le_of_lt f3)
      have m2 := Int.mul_pos f2 f4
      omega
theorem Poly.conv1 (p : Poly v S c s m) {i j : Nat} (hi : 1 ≤ i) (hj : i < j) : ∀ {k : Nat}, j < k → k < m → 0 < det (c i) (c j) (c k)
  | 0, h, _ => absurd h (Nat.not_lt_zero _)
  | k + 1, hk, hm => by
    have f := p.next hi (k := k) (by omega) hm
    by_cases hc : j = k
    · rw [hc]; exact f
    · have ih := Poly.conv1 p hi hj (k := k) (by omega) (by omega)
      refine round (v := c 0) ?_ ?_ ?_ ih f
      · exact p.fan2 hi (by omega) (by omega)
      · exact p.fan2 hi (by omega) (by omega)
      · exact p.fan2 hi (by omega) (by omega)
theorem Poly.conv (p : Poly v S c s m) {i j k : Nat} (hj : i < j) (hk : j < k) (hm : k < m) : 0 < det (c i) (c j) (c k) := by
  by_cases h : i = 0
  · rw [h]
    exact p.fan2 (by omega) hk hm
  · exact p.conv1 (by omega) hj hk hm
end
end Hk
/-! ## E2 -/
/-! bounds, points, and the words of the walk -/
namespace Hk
open PySem PySem.Spec PyProof.Rows L2
/-- of at most n bits -/
def B (n : Nat) (z : Int) : Prop := z.natAbs < 2 ^ n
theorem B.mul {a b : Nat} {i j : Int} (ha : B a i) (hb : B b j) : B (a + b) (i * j) := wide_lt ha hb
theorem pow_le {a b : Nat} (h : a ≤ b) : 2 ^ a ≤ 2 ^ b := Nat.pow_le_pow_right (by decide) h
theorem B.mono {a b : Nat} {i : Int} (h : B a i) (hab : a ≤ b) : B b i := Nat.lt_of_lt_of_le h (pow_le hab)
theorem B.add {a b : Nat} {i j : Int} (ha : B a i) (hb : B b j) : B (max a b + 1) (i + j) := by
  have h1 := ha.mono (Nat.le_max_left a b)
  have h2 := hb.mono (Nat.le_max_right a b)
  unfold B at *
  rw [Nat.pow_succ]
  omega
theorem B.sub {a b : Nat} {i j : Int} (ha : B a i) (hb : B b j) : B (max a b + 1) (i - j) := by
  have h1 := ha.mono (Nat.le_max_left a b)
  have h2 := hb.mono (Nat.le_max_right a b)
  unfold B at *
  rw [Nat.pow_succ]
  omega
theorem B.neg {a : Nat} {i : Int} (ha : B a i) : B a (-i) := by
  unfold B at *
  omega
theorem B.ofLe {a : Nat} {i j : Int} (ha : B a j) (h : i.natAbs ≤ j.natAbs) : B a i := Nat.lt_of_le_of_lt h ha
theorem B.cmul {a b : Nat} {i j : Int} (ha : B a i) (hb : B b j) (h : a + b ≤ 999990) : CMulW i j :=
  wide_mul (a := a + 1) (b := b + 1) (ha.mono (Nat.le_succ a)) (hb.mono (Nat.le_succ b)) (Nat.succ_pos _) (Nat.succ_pos _) (by omega)
theorem B.cdiv {b : Nat} {i j : Int} (hj : j ≠ 0) (hb : B b j) (h : b ≤ 8990) : CDivA i j :=
  ⟨hj, Nat.lt_of_lt_of_le (PySem.Flt.log2_lt_of (Nat.succ_pos b) (hb.mono (Nat.le_succ b))) (by omega)⟩
local macro_rules | `(tactic| walk_at "bd") => `(tactic| first
  | assumption
  | exact (show B 64 _ from by unfold B; decide)
  | (refine B.mul ?_ ?_ <;> walk_at "bd")
  | (refine B.sub ?_ ?_ <;> walk_at "bd")
  | (refine B.add ?_ ?_ <;> walk_at "bd")
  | (refine B.neg ?_ <;> walk_at "bd"))

/-! ### points -/
def P3 (Z : Wd) (v : V) (p : Pt) (H : Hp) : Prop := TuR Z [.int p.x, .int p.y, .int p.w] v H
theorem P3.mono {Z : Wd} {H H' : Hp} {v : V} {p : Pt} (e : Xt Z H H') (h : P3 Z v p H) : P3 Z v p H' := TuR.mono e h
/-- its numbers have some size, its weight is positive -/
structure Nm (p : Pt) : Prop where
  x : B 64 p.x
  y : B 64 p.y
  w : B 64 p.w
  p : 0 < p.w
theorem ev_px {Z : Wd} {K : PySem.W.Frag} {σ : L2.St} {H : Hp} {ta tb : TE} {v : V} {p : Pt} (ha : Ev Z ta σ H (IsV v)) (hp : P3 Z v p H) (hb : Ev Z tb σ H (IsV (.int 0))) : Ev Z (tOp (rIxT K) ta tb) σ H (IsV (.int p.x)) := ev_ixT ha hp hb rfl
theorem ev_py {Z : Wd} {K : PySem.W.Frag} {σ : L2.St} {H : Hp} {ta tb : TE} {v : V} {p : Pt} (ha : Ev Z ta σ H (IsV v)) (hp : P3 Z v p H) (hb : Ev Z tb σ H (IsV (.int 1))) : Ev Z (tOp (rIxT K) ta tb) σ H (IsV (.int p.y)) := ev_ixT ha hp hb rfl
theorem ev_pw {Z : Wd} {K : PySem.W.Frag} {σ : L2.St} {H : Hp} {ta tb : TE} {v : V} {p : Pt} (ha : Ev Z ta σ H (IsV v)) (hp : P3 Z v p H) (hb : Ev Z tb σ H (IsV (.int 2))) : Ev Z (tOp (rIxT K) ta tb) σ H (IsV (.int p.w)) := ev_ixT ha hp hb rfl
end Hk
/-! ## E3 -/
/-! more of what expressions give: isinstance, len, abs, chains, data compared -/
namespace Hk
open PySem PySem.Spec PyProof.Rows L2
def isI : PyData → Bool
  | .int _ => true
  | .bool _ => true
  | _ => false
def isB : PyData → Bool
  | .bool _ => true
  | _ => false
def isS : PyData → Bool
  | .str _ => true
  | _ => false
def isT : PyData → Bool
  | .tuple _ => true
  | _ => false
def isL : PyData → Bool
  | .list _ => true
  | _ => false
def tyNames : List String := ["NoneType", "bool", "int", "str", "list", "tuple", "dict"]
theorem ty_mem (d : PyData) : tyD d ∈ tyNames := by cases d <;> simp [tyD, tyNames]
theorem kI0 : ∀ s ∈ tyNames, kitB s "int" = some (s == "int" || s == "bool") := by decide +kernel
theorem kI (d : PyData) : kitB (tyD d) "int" = some (isI d) := by
  rw [kI0 _ (ty_mem d)]
  cases d <;> rfl
theorem kB0 : ∀ s ∈ tyNames, kitB s "bool" = some (s == "bool") := by decide +kernel
theorem kB (d : PyData) : kitB (tyD d) "bool" = some (isB d) := by
  rw [kB0 _ (ty_mem d)]
  cases d <;> rfl
theorem kS0 : ∀ s ∈ tyNames, kitB s "str" = some (s == "str") := by decide +kernel
theorem kS (d : PyData) : kitB (tyD d) "str" = some (isS d) := by
  rw [kS0 _ (ty_mem d)]
  cases d <;> rfl
theorem kT0 : ∀ s ∈ tyNames, kitB s "tuple" = some (s == "tuple") := by decide +kernel
theorem kT (d : PyData) : kitB (tyD d) "tuple" = some (isT d) := by
  rw [kT0 _ (ty_mem d)]
  cases d <;> rfl
theorem kL0 : ∀ s ∈ tyNames, kitB s "list" = some (s == "list") := by decide +kernel
theorem kL (d : PyData) : kitB (tyD d) "list" = some (isL d) := by
  rw [kL0 _ (ty_mem d)]
  cases d <;> rfl
section
variable {Z : Wd} {K : PySem.W.Frag} {σ : L2.St} {H : Hp} {ta tb te tc : TE} {t u : TT} {x y z v : V} {R : Rl} {d : PyData}
theorem ev_isi {c : String} {b : Bool} (ha : Ev Z ta σ H (IsV v)) (hd : Da Z H v d) (hk : kitB (tyD d) c = some b) : Ev Z (tCB (rIsi K) (tCons ta (tCons (tC (.ty c)) tNil))) σ H (IsV (.bl b)) :=
  ev_cb (ea_cons ha (ea_cons ev_c ea_nil)) fun H1 e Q q => ⟨v, .ty c, _, _, b, rfl, .ty c, (hd.mono e).ty, kit_ty hk, q _ H1 (.refl e.w2) rfl⟩
theorem ev_isInt (ha : Ev Z ta σ H (IsV v)) (hd : Da Z H v d) : Ev Z (tCB (rIsi K) (tCons ta (tCons (tC (.ty "int")) tNil))) σ H (IsV (.bl (isI d))) := ev_isi ha hd (kI d)
theorem ev_isBool (ha : Ev Z ta σ H (IsV v)) (hd : Da Z H v d) : Ev Z (tCB (rIsi K) (tCons ta (tCons (tC (.ty "bool")) tNil))) σ H (IsV (.bl (isB d))) := ev_isi ha hd (kB d)
theorem ev_isStr (ha : Ev Z ta σ H (IsV v)) (hd : Da Z H v d) : Ev Z (tCB (rIsi K) (tCons ta (tCons (tC (.ty "str")) tNil))) σ H (IsV (.bl (isS d))) := ev_isi ha hd (kS d)
theorem ev_isTup (ha : Ev Z ta σ H (IsV v)) (hd : Da Z H v d) : Ev Z (tCB (rIsi K) (tCons ta (tCons (tC (.ty "tuple")) tNil))) σ H (IsV (.bl (isT d))) := ev_isi ha hd (kT d)
theorem ev_isLst (ha : Ev Z ta σ H (IsV v)) (hd : Da Z H v d) : Ev Z (tCB (rIsi K) (tCons ta (tCons (tC (.ty "list")) tNil))) σ H (IsV (.bl (isL d))) := ev_isi ha hd (kL d)
theorem kit_any2 {a b c : String} {x y : Bool} (h1 : kitB a b = some x) (h2 : kitB a c = some y) : PySem.W.kitAny K (.type a) [.type b, .type c] = some (x || y) := by
  cases x with
  | true => exact kitAny_cons (b := true) (kit_ty h1) (fun h => by cases h) (fun _ => rfl)
  | false =>
    refine kitAny_cons (b := false) (kit_ty h1) (fun _ => ?_) (fun h => by cases h)
    cases y with
    | true => exact kitAny_cons (b := true) (kit_ty h2) (fun h => by cases h) (fun _ => rfl)
    | false => exact kitAny_cons (b := false) (kit_ty h2) (fun _ => kitAny_nil) (fun h => by cases h)
/-- isinstance(x, (tuple, list)) -/
theorem ev_isTL (ha : Ev Z ta σ H (IsV v)) (hd : Da Z H v d) : Ev Z (tCB (rIsiT K) (tCons ta (tCons (tTup (tCons (tC (.ty "tuple")) (tCons (tC (.ty "list")) tNil))) tNil))) σ H (IsV (.bl (isT d || isL d))) :=
  ev_cbX (RA := fun us H1 => ∃ p, us = [v, .ref p] ∧ H1 p = some (.tup [.ty "tuple", .ty "list"])) (ea_consX ha fun w1 H1 e1 h1 => ea_consX (ev_tupS (ea_cons ev_c (ea_cons ev_c ea_nil)) (by decide)) fun w2 H2 e2 ⟨p, ep, hp, hn⟩ => ea_nilX fun H3 e3 => ⟨p, by rw [h1, ep], e3.kp _ _ hn hp⟩)
    fun us H1 e ⟨p, e1, e2⟩ Q q => ⟨v, p, _, _, _, _, e1, e2, .cons (.ty _) (.cons (.ty _) .nil), (hd.mono e).ty, kit_any2 (kT d) (kL d), q _ H1 (.refl e.w2) rfl⟩
/-! len -/
abbrev rLen (K : PySem.W.Frag) : List V → Hp → VK → Prop := fun xs H Q => ∃ p ys, xs = [.ref p] ∧ (SqL K H p ys ∨ SqT K H p ys) ∧ Q (.int ys.length) H
theorem ev_lenT {vs : List V} (ha : Ev Z ta σ H (IsV v)) (hx : TuR Z vs v H) : Ev Z (tCB (rLen K) (tCons ta tNil)) σ H (IsV (.int (vs.length : Int))) :=
  ev_cb (ea_cons ha ea_nil) fun H1 e Q q => by
    obtain ⟨a, rfl, h2, h3⟩ := hx
    exact ⟨a, vs, rfl, .inr (.inl (e.rd h3 h2).h), q _ H1 (.refl e.w2) rfl⟩
theorem ev_lenL {vs : List V} (ha : Ev Z ta σ H (IsV v)) (hx : LiR Z vs v H) : Ev Z (tCB (rLen K) (tCons ta tNil)) σ H (IsV (.int (vs.length : Int))) :=
  ev_cb (ea_cons ha ea_nil) fun H1 e Q q => by
    obtain ⟨a, rfl, h2, h3⟩ := hx
    exact ⟨a, vs, rfl, .inl (.inl (.inl (e.kp _ _ h3 h2))), q _ H1 (.refl e.w2) rfl⟩
abbrev rAbs : List V → Hp → VK → Prop := fun xs H Q => ∃ i, xs = [.int i] ∧ Q (.int (if i < 0 then -i else i)) H
theorem ev_abs {i : Int} (ha : Ev Z ta σ H (IsV (.int i))) : Ev Z (tCB rAbs (tCons ta tNil)) σ H (IsV (.int (if i < 0 then -i else i))) :=
  ev_cb (ea_cons ha ea_nil) fun H1 e Q q => ⟨i, rfl, q _ H1 (.refl e.w2) rfl⟩
abbrev rMin2 : List V → Hp → VK → Prop := fun xs H Q => ∃ i j, xs = [.int i, .int j] ∧ Q (.int (if j < i then j else i)) H
theorem ev_min2 {i j : Int} (ha : Ev Z ta σ H (IsV (.int i))) (hb : Ev Z tb σ H (IsV (.int j))) : Ev Z (tCB rMin2 (tCons ta (tCons tb tNil))) σ H (IsV (.int (if j < i then j else i))) :=
  ev_cb (ea_cons ha (ea_cons hb ea_nil)) fun H1 e Q q => ⟨i, j, rfl, q _ H1 (.refl e.w2) rfl⟩
abbrev rInt1 : List V → Hp → VK → Prop := fun xs H Q => (∃ i, xs = [.int i] ∧ Q (.int i) H) ∨ ∃ k, xs = [.bl k] ∧ Q (.int (if k then 1 else 0)) H
theorem ev_int1 {i : Int} (ha : Ev Z ta σ H (IsV (.int i))) : Ev Z (tCB rInt1 (tCons ta tNil)) σ H (IsV (.int i)) :=
  ev_cb (ea_cons ha ea_nil) fun H1 e Q q => .inl ⟨i, rfl, q _ H1 (.refl e.w2) rfl⟩
/-- bool - bool -/
theorem ev_subB {a b : Bool} (ha : Ev Z ta σ H (IsV (.bl a))) (hb : Ev Z tb σ H (IsV (.bl b))) : Ev Z (tOp rSubB ta tb) σ H (IsV (.int (b2i a - b2i b))) := ev_op ha hb fun H1 e Q q => ⟨a, b, rfl, rfl, q _ H1 (.refl e.w2) rfl⟩
theorem ev_isN (ha : Ev Z ta σ H (IsV x)) : Ev Z (tOp (fun x y H Q => y = .non ∧ Q (.bl (decide (x = .non))) H) ta (tC .non)) σ H (IsV (.bl (decide (x = .non)))) := ev_op ha ev_c fun H1 e Q q => ⟨rfl, q _ H1 (.refl e.w2) rfl⟩
theorem ev_notN (ha : Ev Z ta σ H (IsV x)) : Ev Z (tOp (fun x y H Q => y = .non ∧ Q (.bl (!decide (x = .non))) H) ta (tC .non)) σ H (IsV (.bl (!decide (x = .non)))) := ev_op ha ev_c fun H1 e Q q => ⟨rfl, q _ H1 (.refl e.w2) rfl⟩
/-- i op j op k, ints -/
theorem ev_chI {p p' : Int → Int → Bool} {i j k : Int} (ha : Ev Z ta σ H (IsV (.int i))) (hb : Ev Z tb σ H (IsV (.int j))) (hc : Ev Z tc σ H (IsV (.int k))) :
    Ev Z (tChain (rI0 fun i j => .bl (p i j)) (rI0 fun i j => .bl (p' i j)) ta tb tc) σ H (IsV (.bl (p i j && p' j k))) :=
  ev_chain ha hb (fun H1 e => op_i0 (g := fun i j => .bl (p i j)) e.w2) (fun _ => hc) (fun _ H1 e => op_i0 (g := fun i j => .bl (p' i j)) e.w2)
theorem ev_chI' {p p' : Int → Int → Bool} {i j k : Int} (ha : Ev Z ta σ H (IsV (.int i))) (hb : Ev Z tb σ H (IsV (.int j))) (hc : p i j = true → Ev Z tc σ H (IsV (.int k))) :
    Ev Z (tChain (rI0 fun i j => .bl (p i j)) (rI0 fun i j => .bl (p' i j)) ta tb tc) σ H (IsV (.bl (p i j && p' j k))) :=
  ev_chain ha hb (fun H1 e => op_i0 (g := fun i j => .bl (p i j)) e.w2) hc (fun _ H1 e => op_i0 (g := fun i j => .bl (p' i j)) e.w2)
/-- data compared -/
theorem ev_eqD {e : PyData} {Ra : Rl} {Rb : V → Rl} (ha : Ev Z ta σ H Ra) (hb : ∀ x H1, Xt Z H H1 → Ra x H1 → Ev Z tb σ H1 (Rb x))
    (hd : ∀ x y H1 H2, Xt Z H H1 → Xt Z H1 H2 → Ra x H1 → Rb x y H2 → Da Z H2 x d ∧ Da Z H2 y e) (nd : nod d = true) (ne : nod e = true) (sd : SeqAt.shaped d = true) (se : SeqAt.shaped e = true) :
    Ev Z (tOp (rEqD K) ta tb) σ H (IsV (.bl (PyData.eqv d e))) := ev_opX ha hb fun x y H1 H2 e1 e2 rx ry Q q => by
  obtain ⟨h1, h2⟩ := hd x y H1 H2 e1 e2 rx ry
  exact ⟨d, e, h1.dp nd, h2.dp ne, sd, se, q _ H2 (.refl e2.w2) rfl⟩
theorem ev_neD {e : PyData} {Ra : Rl} {Rb : V → Rl} (ha : Ev Z ta σ H Ra) (hb : ∀ x H1, Xt Z H H1 → Ra x H1 → Ev Z tb σ H1 (Rb x))
    (hd : ∀ x y H1 H2, Xt Z H H1 → Xt Z H1 H2 → Ra x H1 → Rb x y H2 → Da Z H2 x d ∧ Da Z H2 y e) (nd : nod d = true) (ne : nod e = true) (sd : SeqAt.shaped d = true) (se : SeqAt.shaped e = true) :
    Ev Z (tOp (rNeD K) ta tb) σ H (IsV (.bl (!PyData.eqv d e))) := ev_opX ha hb fun x y H1 H2 e1 e2 rx ry Q q => by
  obtain ⟨h1, h2⟩ := hd x y H1 H2 e1 e2 rx ry
  exact ⟨d, e, h1.dp nd, h2.dp ne, sd, se, q _ H2 (.refl e2.w2) rfl⟩
/-- two known data values compared -/
theorem ev_eqDD {e : PyData} (ha : Ev Z ta σ H (DaR Z d)) (hb : Ev Z tb σ H (DaR Z e)) (nd : nod d = true) (ne : nod e = true) (sd : SeqAt.shaped d = true) (se : SeqAt.shaped e = true) :
    Ev Z (tOp (rEqD K) ta tb) σ H (IsV (.bl (PyData.eqv d e))) := ev_eqD (Rb := fun _ => DaR Z e) ha (fun _ _ e1 _ => hb.mono e1) (fun _ _ _ _ _ e2 h1 h2 => ⟨h1.mono e2, h2⟩) nd ne sd se
theorem ev_neDD {e : PyData} (ha : Ev Z ta σ H (DaR Z d)) (hb : Ev Z tb σ H (DaR Z e)) (nd : nod d = true) (ne : nod e = true) (sd : SeqAt.shaped d = true) (se : SeqAt.shaped e = true) :
    Ev Z (tOp (rNeD K) ta tb) σ H (IsV (.bl (!PyData.eqv d e))) := ev_neD (Rb := fun _ => DaR Z e) ha (fun _ _ e1 _ => hb.mono e1) (fun _ _ _ _ _ e2 h1 h2 => ⟨h1.mono e2, h2⟩) nd ne sd se
variable {D : Ends}
theorem s_par {i j : Nat} {ta : TA} {RA : List V → Hp → Prop} (w : Z.W H) (h : EvA Z ta σ H RA) (k : ∀ vs H1, Xt Z H H1 → RA vs H1 → ∃ a b, vs = [a, b] ∧ D.nx ((σ.set i (some a)).set j (some b)) H1) : tPar i j ta D σ H := h H (.refl w) _ fun vs H1 e r => k vs H1 e r
theorem s_par3 {i j l : Nat} {ta : TA} {RA : List V → Hp → Prop} (w : Z.W H) (h : EvA Z ta σ H RA) (k : ∀ vs H1, Xt Z H H1 → RA vs H1 → ∃ a b c, vs = [a, b, c] ∧ D.nx (((σ.set i (some a)).set j (some b)).set l (some c)) H1) : tPar3 i j l ta D σ H := h H (.refl w) _ fun vs H1 e r => k vs H1 e r
variable {tu tz : TS} {g : TG}
theorem q_while (W : Nat → L2.St → Hp → Prop) (m0 : Nat) (h0 : W m0 σ H)
    (hs : ∀ m σ' H', W m σ' H' → Z.W H' ∧ ∃ b, EvT Z t σ' H' b ∧ (b = true → ∀ H1, Xt Z H' H1 → tu { D with nx := fun σ2 H2 => ∃ m', m' < m ∧ W m' σ2 H2, ct := fun σ2 H2 => ∃ m', m' < m ∧ W m' σ2 H2, bk := tz D } σ' H1) ∧ (b = false → ∀ H1, Xt Z H' H1 → tz D σ' H1)) : tSeq (tWhile t tu) tz D σ H :=
  s_while (D := { D with nx := tz D }) W m0 h0 hs
theorem q_forR1 {ta : TA} {j : Nat} {n : Int} (w : Z.W H) (h : EvA Z ta σ H (fun vs _ => vs = [.int n])) (hn : 0 ≤ n ∧ n ≤ 100000) (Pv : Nat → L2.St → Hp → Prop) (h0 : ∀ H1, Xt Z H H1 → Pv 0 σ H1)
    (hs : ∀ (i : Nat) σ' H', (i : Int) < n → Pv i σ' H' → tu { D with nx := Pv (i + 1), ct := Pv (i + 1), bk := tz D } (σ'.set j (some (.int (i : Int)))) H') (hd : ∀ σ' H', Pv n.toNat σ' H' → tz D σ' H') : tSeq (tFor (iRng1 ta) (gName j) tu) tz D σ H :=
  s_forR1 (D := { D with nx := tz D }) w h hn Pv h0 hs hd
theorem q_forT {vs : List V} {tl : TE} (w : Z.W H) (h : Ev Z tl σ H (IsV x)) (hx : TuR Z vs x H) (Pv : Nat → L2.St → Hp → Prop) (h0 : ∀ H1, Xt Z H H1 → Pv 0 σ H1) (hl : ∀ i σ' H', Pv i σ' H' → TuR Z vs x H')
    (hs : ∀ i y σ' H', vs[i]? = some y → Pv i σ' H' → g y σ' H' fun σ2 H2 => tu { D with nx := Pv (i + 1), ct := Pv (i + 1), bk := tz D } σ2 H2) (hd : ∀ σ' H', Pv vs.length σ' H' → tz D σ' H') : tSeq (tFor (iTup K tl) g tu) tz D σ H :=
  s_forT (D := { D with nx := tz D }) w h hx Pv h0 hl hs hd
theorem q_forL {vs : List V} {tl : TE} (w : Z.W H) (h : Ev Z tl σ H (IsV x)) (hx : LiR Z vs x H) (Pv : Nat → L2.St → Hp → Prop) (h0 : ∀ H1, Xt Z H H1 → Pv 0 σ H1) (hl : ∀ i σ' H', Pv i σ' H' → LiR Z vs x H')
    (hs : ∀ i y σ' H', vs[i]? = some y → Pv i σ' H' → g y σ' H' fun σ2 H2 => tu { D with nx := Pv (i + 1), ct := Pv (i + 1), bk := tz D } σ2 H2) (hd : ∀ σ' H', Pv vs.length σ' H' → tz D σ' H') : tSeq (tFor (iList K tl) g tu) tz D σ H :=
  s_forL (D := { D with nx := tz D }) w h hx Pv h0 hl hs hd
theorem q_forNL {tl : TE} {RN : Rl} (w : Z.W H) (h : Ev Z tl σ H RN) (k : ∀ x H1, Xt Z H H1 → RN x H1 → ∃ vs, LiR Z vs x H1 ∧ ∃ Pv : Nat → L2.St → Hp → Prop, Pv 0 σ H1 ∧ (∀ i σ' H', Pv i σ' H' → LiR Z vs x H') ∧
    (∀ i y σ' H', vs[i]? = some y → Pv i σ' H' → g y σ' H' fun σ2 H2 => tu { D with nx := Pv (i + 1), ct := Pv (i + 1), bk := tz D } σ2 H2) ∧ (∀ σ' H', Pv vs.length σ' H' → tz D σ' H')) : tSeq (tFor (iList K tl) g tu) tz D σ H := s_forNL (D := { D with nx := tz D }) w h k
theorem q_forNT {tl : TE} {RN : Rl} (w : Z.W H) (h : Ev Z tl σ H RN) (k : ∀ x H1, Xt Z H H1 → RN x H1 → ∃ vs, TuR Z vs x H1 ∧ ∃ Pv : Nat → L2.St → Hp → Prop, Pv 0 σ H1 ∧ (∀ i σ' H', Pv i σ' H' → TuR Z vs x H') ∧
    (∀ i y σ' H', vs[i]? = some y → Pv i σ' H' → g y σ' H' fun σ2 H2 => tu { D with nx := Pv (i + 1), ct := Pv (i + 1), bk := tz D } σ2 H2) ∧ (∀ σ' H', Pv vs.length σ' H' → tz D σ' H')) : tSeq (tFor (iTup K tl) g tu) tz D σ H := s_forNT (D := { D with nx := tz D }) w h k
theorem q_app {l : Addr} {xs : List V} (w : Z.W H) (hl : H l = some (.lst xs)) (nl : ¬ Z.S l) (ha : Ev Z ta σ H (IsV (.ref l))) (h : Ev Z te σ H R) (hz : xs.length < 100000) (k : ∀ v H1, Xt Z H H1 → R v H1 → H1 l = some (.lst xs) → tz D σ (upd H1 l (.lst (xs ++ [v])))) :
    tSeq (tDrop (tBM K "list" rAppend ta (tCons te tNil))) tz D σ H := s_app (D := { D with nx := tz D }) w hl nl ha h hz k
end
/-! ### points and ratios as data -/
def ptD (p : Pt) : PyData := .tuple [.int p.x, .int p.y, .int p.w]
def raD (q : Rat) : PyData := .tuple [.int q.num, .int (q.den : Int)]
/-- a ratio -/
def Ra (Z : Wd) (q : Rat) : Rl := TuR Z [.int q.num, .int (q.den : Int)]
theorem P3.da {Z : Wd} {H : Hp} {v : V} {p : Pt} (h : P3 Z v p H) : Da Z H v (ptD p) := by
  obtain ⟨a, rfl, h1, h2⟩ := h
  exact .tup h1 h2 (.cons (.int _) (.cons (.int _) (.cons (.int _) .nil)))
theorem P3.of {Z : Wd} {H : Hp} {v : V} {p : Pt} (h : Da Z H v (ptD p)) : P3 Z v p H := by
  cases h with
  | tup h1 h2 h3 =>
    cases h3 with
    | cons a b =>
      cases a
      cases b with
      | cons a b =>
        cases a
        cases b with
        | cons a b =>
          cases a
          cases b
          exact ⟨_, rfl, h1, h2⟩
theorem Ra.da {Z : Wd} {H : Hp} {v : V} {q : Rat} (h : Ra Z q v H) : Da Z H v (raD q) := by
  obtain ⟨a, rfl, h1, h2⟩ := h
  exact .tup h1 h2 (.cons (.int _) (.cons (.int _) .nil))
theorem Ra.of {Z : Wd} {H : Hp} {v : V} {q : Rat} (h : Da Z H v (raD q)) : Ra Z q v H := by
  cases h with
  | tup h1 h2 h3 =>
    cases h3 with
    | cons a b =>
      cases a
      cases b with
      | cons a b =>
        cases a
        cases b
        exact ⟨_, rfl, h1, h2⟩
theorem Ra.mono {Z : Wd} {H H' : Hp} {v : V} {q : Rat} (e : Xt Z H H') (h : Ra Z q v H) : Ra Z q v H' := TuR.mono e h
theorem ptD_nod (p : Pt) : nod (ptD p) = true := by simp [ptD, nod, nodL]
theorem raD_nod (q : Rat) : nod (raD q) = true := by simp [raD, nod, nodL]
theorem ptD_sh (p : Pt) : SeqAt.shaped (ptD p) = true := by simp [ptD, SeqAt.shaped, PyData.canLay0, PyData.canLayAll0, PyData.depth, PyData.depthAll]
theorem raD_sh (q : Rat) : SeqAt.shaped (raD q) = true := by simp [raD, SeqAt.shaped, PyData.canLay0, PyData.canLayAll0, PyData.depth, PyData.depthAll]
theorem ptD_eqv (p q : Pt) : PyData.eqv (ptD p) (ptD q) = decide (p = q) := by
  have e : PyData.eqv (ptD p) (ptD q) = ((p.x == q.x) && ((p.y == q.y) && ((p.w == q.w) && true))) := by simp only [ptD, PyData.eqv, PyData.eqvAll]
  rw [e]
  by_cases h : p = q
  · subst h; simp
  · rw [decide_eq_false h]
    by_cases h1 : p.x = q.x
    · by_cases h2 : p.y = q.y
      · have h3 : (p.w == q.w) = false := beq_eq_false_iff_ne.mpr fun z => h (by cases p; cases q; simp_all)
        rw [h3]; simp
      · have h3 : (p.y == q.y) = false := beq_eq_false_iff_ne.mpr h2
        rw [h3]; simp
    · have h3 : (p.x == q.x) = false := beq_eq_false_iff_ne.mpr h1
      rw [h3]; simp
theorem raD_eqv (p q : Rat) : PyData.eqv (raD p) (raD q) = decide (p = q) := by
  have e : PyData.eqv (raD p) (raD q) = ((p.num == q.num) && (((p.den : Int) == (q.den : Int)) && true)) := by simp only [raD, PyData.eqv, PyData.eqvAll]
  rw [e]
  by_cases h : p = q
  · subst h; simp
  · rw [decide_eq_false h]
    by_cases h1 : p.num = q.num
    · have h2 : ((p.den : Int) == (q.den : Int)) = false := beq_eq_false_iff_ne.mpr fun z => h (Rat.ext h1 (by omega))
      rw [h2]; simp
    · have h2 : (p.num == q.num) = false := beq_eq_false_iff_ne.mpr h1
      rw [h2]; simp
end Hk
/-! ## G2 -/
/-! numbers: gcd, ratios, signs -/
namespace Hk
def sgn (n : Int) : Int := if 0 < n then 1 else if n < 0 then -1 else 0
def gcdI (a b : Int) : Int := (Int.gcd a b : Nat)
theorem gcd_abs (a b : Int) : gcdI (if a < 0 then -a else a) (if b < 0 then -b else b) = gcdI a b := by
  unfold gcdI
  split <;> split <;> simp [Int.gcd]
theorem gcd_turn {a b : Int} (ha : 0 ≤ a) (hb : 0 < b) : gcdI b (a.fmod b) = gcdI a b := by
  rw [Int.fmod_eq_emod_of_nonneg a (Int.le_of_lt hb)]
  unfold gcdI
  have e : (a % b).natAbs = a.natAbs % b.natAbs := by
    rw [Int.natAbs_emod_of_nonneg ha]
  congr 1
  show Nat.gcd b.natAbs (a % b).natAbs = Nat.gcd a.natAbs b.natAbs
  rw [e, Nat.gcd_comm a.natAbs, Nat.gcd_comm b.natAbs (a.natAbs % b.natAbs), ← Nat.gcd_rec]
theorem gcd_zero {a : Int} (ha : 0 ≤ a) : gcdI a 0 = a := by
  unfold gcdI
  simp [Int.gcd]
  omega
theorem gcd_pos {a b : Int} (h : b ≠ 0) : 0 < gcdI a b := by
  unfold gcdI
  have := Int.gcd_pos_of_ne_zero_right a h
  omega
theorem gcd_pos1 {a b : Int} (h : a ≠ 0) : 0 < gcdI a b := by
  unfold gcdI
  have := Int.gcd_pos_of_ne_zero_left b h
  omega
theorem gcd_dl (a b : Int) : gcdI a b ∣ a := Int.gcd_dvd_left ..
theorem gcd_dr (a b : Int) : gcdI a b ∣ b := Int.gcd_dvd_right ..
/-- the divisor that `reduced` takes -/
def redc (n d : Int) : Int := if d < 0 then -gcdI n d else gcdI n d
theorem redc_ne {n d : Int} (h : d ≠ 0) : redc n d ≠ 0 := by
  have := gcd_pos (a := n) h
  unfold redc
  split <;> omega
theorem redc_num {n d : Int} (h : d ≠ 0) : n.fdiv (redc n d) = (Rat.divInt n d).num := by
  have hp := gcd_pos (a := n) h
  rw [Rat.num_divInt]
  have hg : ((d.gcd n : Nat) : Int) = gcdI n d := by unfold gcdI; rw [Int.gcd_comm]
  rw [hg]
  unfold redc
  by_cases hd : d < 0
  · rw [if_pos hd, Int.sign_eq_neg_one_of_neg hd]
    have h1 : -gcdI n d ∣ n := Int.neg_dvd.mpr (gcd_dl n d)
    rw [Int.fdiv_eq_ediv_of_dvd h1, Int.ediv_neg]
    have e : -1 * n = -n := by omega
    rw [e, Int.neg_ediv_of_dvd (gcd_dl n d)]
  · have hd' : 0 < d := by omega
    rw [if_neg hd, Int.sign_eq_one_of_pos hd', Int.fdiv_eq_ediv_of_dvd (gcd_dl n d), Int.one_mul]
theorem redc_den {n d : Int} (h : d ≠ 0) : d.fdiv (redc n d) = ((Rat.divInt n d).den : Int) := by
  have hp := gcd_pos (a := n) h
  rw [Rat.den_divInt, if_neg h]
  have hg : ((d.gcd n : Nat) : Int) = gcdI n d := by unfold gcdI; rw [Int.gcd_comm]
  rw [Int.natCast_ediv, hg]
  unfold redc
  by_cases hd : d < 0
  · rw [if_pos hd]
    have h1 : -gcdI n d ∣ d := Int.neg_dvd.mpr (gcd_dr n d)
    rw [Int.fdiv_eq_ediv_of_dvd h1, Int.ediv_neg]
    have e : ((d.natAbs : Nat) : Int) = -d := by omega
    rw [e, Int.neg_ediv_of_dvd (gcd_dr n d)]
  · rw [if_neg hd, Int.fdiv_eq_ediv_of_dvd (gcd_dr n d)]
    have e : ((d.natAbs : Nat) : Int) = d := by omega
    rw [e]
theorem div_num (q : Rat) : Rat.divInt q.num (q.den : Int) = q := Rat.num_divInt_den q
theorem den_pos (q : Rat) : (0 : Int) < (q.den : Int) := by
  have := q.den_pos
  omega
theorem den_ne (q : Rat) : (q.den : Int) ≠ 0 := by
  have := den_pos q
  omega
theorem add_eq (p q : Rat) : Rat.divInt (p.num * q.den + q.num * p.den) (p.den * q.den) = p + q := by
  have h := Rat.divInt_add_divInt p.num q.num (den_ne p) (den_ne q)
  rw [div_num, div_num] at h
  rw [h]
theorem mul_eq (p q : Rat) : Rat.divInt (p.num * q.num) (p.den * q.den) = p * q := by
  have h := Rat.divInt_mul_divInt p.num q.num (d₁ := (p.den : Int)) (d₂ := (q.den : Int))
  rw [div_num, div_num] at h
  rw [h]
theorem num_abs (n : Int) {d : Int} (h : d ≠ 0) : (Rat.divInt n d).num.natAbs ≤ n.natAbs := by
  rw [← redc_num h]
  have hc := redc_ne (n := n) h
  have hdv : redc n d ∣ n := by
    unfold redc
    split
    · exact Int.neg_dvd.mpr (gcd_dl n d)
    · exact gcd_dl n d
  rw [Int.fdiv_eq_ediv_of_dvd hdv, Int.natAbs_ediv_of_dvd hdv]
  exact Nat.div_le_self _ _
theorem den_abs (n : Int) {d : Int} (h : d ≠ 0) : (Rat.divInt n d).den ≤ d.natAbs := by
  rw [Rat.den_divInt, if_neg h]
  exact Nat.div_le_self _ _
/-- an ordered pair of a ratio is its own -/
theorem own_ratio {n d : Int} (h : 0 < d) (hg : gcdI n d = 1) : (Rat.divInt n d).num = n ∧ ((Rat.divInt n d).den : Int) = d := by
  have hd : d ≠ 0 := by omega
  rw [← redc_num hd, ← redc_den hd]
  unfold redc
  rw [if_neg (show ¬ d < 0 by omega), hg, Int.fdiv_one, Int.fdiv_one]
  exact ⟨rfl, rfl⟩
theorem rat_gcd (q : Rat) : gcdI q.num q.den = 1 := by
  unfold gcdI
  have := q.reduced
  have e : Int.gcd q.num (q.den : Int) = Nat.gcd q.num.natAbs q.den := by simp [Int.gcd]
  rw [e]
  have h : Nat.gcd q.num.natAbs q.den = 1 := this
  rw [h]; rfl
end Hk
/-! ## F1 -/
namespace Hk
open PySem PySem.Spec PyProof.Rows L2
local macro_rules | `(tactic| walk_at "bd") => `(tactic| first
  | assumption
  | exact (show B 64 _ from by unfold B; decide)
  | (refine' B.mul ?b1 ?b2; (case b1 => walk_at "bd"); (case b2 => walk_at "bd"))
  | (refine' B.sub ?b1 ?b2; (case b1 => walk_at "bd"); (case b2 => walk_at "bd"))
  | (refine' B.add ?b1 ?b2; (case b1 => walk_at "bd"); (case b2 => walk_at "bd"))
  | (refine' B.neg ?b1; (case b1 => walk_at "bd")))
local macro_rules | `(tactic| walk_at "da") => `(tactic| first
  | assumption
  | exact Da.int _
  | exact Da.non
  | exact Da.bl _
  | exact Da.str _
  | ((with_reducible refine' P3.mono (by assumption) ?d1); (case d1 => walk_at "da"))
  | ((with_reducible refine' Ra.mono (by assumption) ?d1); (case d1 => walk_at "da"))
  | ((with_reducible refine' TuR.mono (by assumption) ?d1); (case d1 => walk_at "da"))
  | ((with_reducible refine' LiR.mono (by assumption) ?d1); (case d1 => walk_at "da"))
  | ((with_reducible refine' Da.mono (by assumption) ?d1); (case d1 => walk_at "da")))
local macro_rules | `(tactic| walk_at "xt") => `(tactic| first
  | assumption
  | (refine' Xt.trans ?x1 (by assumption); (case x1 => walk_at "xt")))
local macro_rules | `(tactic| walk_at "w") => `(tactic| first
  | assumption
  | exact Xt.w2 (by assumption)
  | exact Xt.w1 (by assumption))
local macro_rules | `(tactic| walk_at "side") => `(tactic| first
  | assumption
  | (refine' B.cmul ?b1 ?b2 ?b3; (case b1 => walk_at "bd"); (case b2 => walk_at "bd"); (case b3 => first | decide | omega))
  | (refine' B.cdiv ?b1 ?b2 ?b3; (case b1 => assumption); (case b2 => walk_at "bd"); (case b3 => first | decide | omega)))
local macro_rules | `(tactic| walk_at "ea") => `(tactic| first
  | with_reducible exact ea_nil
  | ((with_reducible refine' ea_cons ?p1 ?p2); (case p1 => walk_at "ev"); (case p2 => walk_at "ea")))
local macro_rules | `(tactic| walk_at "et") => `(tactic| first
  | ((with_reducible refine' et_and ?p1 ?p2); (case p1 => walk_at "et"); (case p2 => intro _; walk_at "et"))
  | ((with_reducible refine' et_or ?p1 ?p2); (case p1 => walk_at "et"); (case p2 => intro _; walk_at "et"))
  | ((with_reducible refine' et_not ?p1); (case p1 => walk_at "et"))
  | ((with_reducible refine' et_test ?p1); (case p1 => walk_at "ev"))
  | ((with_reducible refine' et_B ?p1); (case p1 => walk_at "ev")))
local macro_rules | `(tactic| walk_at "ev") => `(tactic| first
  | with_reducible exact ev_c
  | ((with_reducible refine' ev_var ?v1); (case v1 => exact rfl))
  | ((with_reducible refine' ev_px ?p1 ?p2 ?p3); (case p1 => walk_at "ev"); (case p2 => walk_at "da"); (case p3 => with_reducible exact ev_c))
  | ((with_reducible refine' ev_py ?p1 ?p2 ?p3); (case p1 => walk_at "ev"); (case p2 => walk_at "da"); (case p3 => with_reducible exact ev_c))
  | ((with_reducible refine' ev_pw ?p1 ?p2 ?p3); (case p1 => walk_at "ev"); (case p2 => walk_at "da"); (case p3 => with_reducible exact ev_c))
  | ((with_reducible refine' ev_ixT ?p1 ?p2 ?p3 ?p4); (case p1 => walk_at "ev"); (case p2 => walk_at "da"); (case p3 => walk_at "ev"); (case p4 => first | exact rfl | assumption))
  | ((with_reducible refine' ev_ixL ?p1 ?p2 ?p3 ?p4); (case p1 => walk_at "ev"); (case p2 => walk_at "da"); (case p3 => walk_at "ev"); (case p4 => first | exact rfl | assumption))
  | ((with_reducible refine' ev_i0 ?p1 ?p2); (case p1 => walk_at "ev"); (case p2 => walk_at "ev"))
  | ((with_reducible refine' ev_iC ?p1 ?p2 ?p3); (case p1 => walk_at "ev"); (case p2 => walk_at "ev"); (case p3 => walk_at "side"))
  | ((with_reducible refine' ev_neg ?p1); (case p1 => walk_at "ev"))
  | ((with_reducible refine' ev_eq ?p1 ?p2 ?p3); (case p1 => walk_at "ev"); (case p2 => walk_at "ev"); (case p3 => exact rfl))
  | ((with_reducible refine' ev_ne ?p1 ?p2 ?p3); (case p1 => walk_at "ev"); (case p2 => walk_at "ev"); (case p3 => exact rfl))
  | ((with_reducible refine' ev_andV ?p1 ?p2); (case p1 => walk_at "ev"); (case p2 => intro _; walk_at "ev"))
  | ((with_reducible refine' ev_orV ?p1 ?p2); (case p1 => walk_at "ev"); (case p2 => intro _; walk_at "ev"))
  | ((with_reducible refine' ev_notV ?p1); (case p1 => walk_at "ev"))
  | ((with_reducible refine' ev_subB ?p1 ?p2); (case p1 => walk_at "ev"); (case p2 => walk_at "ev"))
  | ((with_reducible refine' ev_chI ?p1 ?p2 ?p3); (case p1 => walk_at "ev"); (case p2 => walk_at "ev"); (case p3 => walk_at "ev"))
  | ((with_reducible refine' ev_isInt ?p1 ?p2); (case p1 => walk_at "ev"); (case p2 => walk_at "da"))
  | ((with_reducible refine' ev_isBool ?p1 ?p2); (case p1 => walk_at "ev"); (case p2 => walk_at "da"))
  | ((with_reducible refine' ev_isStr ?p1 ?p2); (case p1 => walk_at "ev"); (case p2 => walk_at "da"))
  | ((with_reducible refine' ev_isTup ?p1 ?p2); (case p1 => walk_at "ev"); (case p2 => walk_at "da"))
  | ((with_reducible refine' ev_isLst ?p1 ?p2); (case p1 => walk_at "ev"); (case p2 => walk_at "da"))
  | ((with_reducible refine' ev_isTL ?p1 ?p2); (case p1 => walk_at "ev"); (case p2 => walk_at "da"))
  | ((with_reducible refine' ev_lenT ?p1 ?p2); (case p1 => walk_at "ev"); (case p2 => walk_at "da"))
  | ((with_reducible refine' ev_lenL ?p1 ?p2); (case p1 => walk_at "ev"); (case p2 => walk_at "da"))
  | ((with_reducible refine' ev_abs ?p1); (case p1 => walk_at "ev"))
  | ((with_reducible refine' ev_min2 ?p1 ?p2); (case p1 => walk_at "ev"); (case p2 => walk_at "ev"))
  | ((with_reducible refine' ev_int1 ?p1); (case p1 => walk_at "ev"))
  | ((with_reducible refine' ev_isN ?p1); (case p1 => walk_at "ev"))
  | ((with_reducible refine' ev_notN ?p1); (case p1 => walk_at "ev"))
  | ((with_reducible refine' ev_sign ?p1); (case p1 => walk_at "ev"))
  | ((with_reducible refine' ev_gcd ?p1 ?p2); (case p1 => walk_at "ev"); (case p2 => walk_at "ev"))
  | ((with_reducible refine' ev_is_in ?p1 ?p2 ?p3 ?p4); (case p1 => walk_at "ev"); (case p2 => walk_at "da"); (case p3 => walk_at "ev"); (case p4 => walk_at "ev"))
  | ((with_reducible refine' ev_doubled ?p1 ?p2 ?p3 ?p4 ?p5 ?p6 ?p7 ?p8 ?p9); (case p1 => walk_at "ev"); (case p2 => walk_at "ev"); (case p3 => walk_at "ev"); (case p4 => walk_at "da"); (case p5 => walk_at "da"); (case p6 => walk_at "da"); (case p7 => assumption); (case p8 => assumption); (case p9 => assumption))
  | ((with_reducible refine' ev_order_of ?p1 ?p2 ?p3 ?p4 ?p5 ?p6); (case p1 => walk_at "ev"); (case p2 => walk_at "ev"); (case p3 => walk_at "da"); (case p4 => walk_at "da"); (case p5 => assumption); (case p6 => assumption))
  | ((with_reducible refine' ev_turn_of ?p1 ?p2 ?p3 ?p4 ?p5 ?p6 ?p7 ?p8 ?p9); (case p1 => walk_at "ev"); (case p2 => walk_at "ev"); (case p3 => walk_at "ev"); (case p4 => walk_at "da"); (case p5 => walk_at "da"); (case p6 => walk_at "da"); (case p7 => assumption); (case p8 => assumption); (case p9 => assumption))
  | ((with_reducible refine' ev_is_between ?p1 ?p2 ?p3 ?p4 ?p5 ?p6 ?p7 ?p8 ?p9); (case p1 => walk_at "ev"); (case p2 => walk_at "ev"); (case p3 => walk_at "ev"); (case p4 => walk_at "da"); (case p5 => walk_at "da"); (case p6 => walk_at "da"); (case p7 => assumption); (case p8 => assumption); (case p9 => assumption)))
section
variable {P : Program} {w : World} {K : PySem.W.Frag} {mg : Str → Option Value} {base : Heap}
/-! doubled -/
def G_doubled : Gv := fun Z vs H R => ∃ va vb vc a b c, vs = [va, vb, vc] ∧ P3 Z va a H ∧ P3 Z vb b H ∧ P3 Z vc c H ∧ Nm a ∧ Nm b ∧ Nm c ∧ R = IsV (.int (det a b c))
theorem ok_doubled (T : Tx K mg) : FnOk P w K mg base CX0 1 T.f_doubled T.d_doubled ["a", "b", "c"] (spOf G_doubled) := by
  refine T.F_doubled.ok sc_doubled (fun vs H Q E h => ?_) (fun cdv A outer s H vs Q E hr h => ?_)
  · obtain ⟨Z, R, _, ⟨va, vb, vc, a, b, c, rfl, _⟩, _⟩ := h
    rfl
  obtain ⟨Z, R, hw, ⟨va, vb, vc, a, b, c, rfl, pa, pb, pc, na, nb, nc, rfl⟩, hq⟩ := h
  refine ⟨_, (pss_cons (ps_set (i := 3) sc_doubled.nd rfl (Or.inl rfl) (pe_op op_mulW (pe_ix ix_tup (pv 0) pe_int (fun _ _ => rfl)) (pe_op op_sub (pe_op op_mulW (pe_ix ix_tup (pv 1) pe_int (fun _ _ => rfl)) (pe_ix ix_tup (pv 2) pe_int (fun _ _ => rfl))) (pe_op op_mulW (pe_ix ix_tup (pv 2) pe_int (fun _ _ => rfl)) (pe_ix ix_tup (pv 1) pe_int (fun _ _ => rfl))))))
  (pss_cons (ps_set (i := 4) sc_doubled.nd rfl (Or.inl rfl) (pe_op op_mulW (pe_ix ix_tup (pv 0) pe_int (fun _ _ => rfl)) (pe_op op_sub (pe_op op_mulW (pe_ix ix_tup (pv 1) pe_int (fun _ _ => rfl)) (pe_ix ix_tup (pv 2) pe_int (fun _ _ => rfl))) (pe_op op_mulW (pe_ix ix_tup (pv 2) pe_int (fun _ _ => rfl)) (pe_ix ix_tup (pv 1) pe_int (fun _ _ => rfl))))))
  (pss_one (ps_ret (pe_op op_add (pe_op op_sub (pv 3) (pv 4)) (pe_op op_mulW (pe_ix ix_tup (pv 0) pe_int (fun _ _ => rfl)) (pe_op op_sub (pe_op op_mulW (pe_ix ix_tup (pv 1) pe_int (fun _ _ => rfl)) (pe_ix ix_tup (pv 2) pe_int (fun _ _ => rfl))) (pe_op op_mulW (pe_ix ix_tup (pv 2) pe_int (fun _ _ => rfl)) (pe_ix ix_tup (pv 1) pe_int (fun _ _ => rfl)))))))))), ?_⟩
  obtain ⟨a1, a2, a3, _⟩ := na
  obtain ⟨b1, b2, b3, _⟩ := nb
  obtain ⟨c1, c2, c3, _⟩ := nc
  refine q_asg (Z := Z) (by walk_at "w") (by walk_at "ev") fun v1 H1 e1 r1 => ?_
  subst r1
  refine q_asg (Z := Z) (by walk_at "w") (by walk_at "ev") fun v2 H2 e2 r2 => ?_
  subst r2
  refine s_ret (Z := Z) (by walk_at "w") (by walk_at "ev") fun v3 H3 e3 r3 => ?_
  exact hq _ _ (by walk_at "xt") r3
end
end Hk
/-! ## F2 -/
namespace Hk
open PySem PySem.Spec PyProof.Rows L2
local macro_rules | `(tactic| walk_at "bd") => `(tactic| first
  | assumption
  | exact (show B 64 _ from by unfold B; decide)
  | (refine' B.mul ?b1 ?b2; (case b1 => walk_at "bd"); (case b2 => walk_at "bd"))
  | (refine' B.sub ?b1 ?b2; (case b1 => walk_at "bd"); (case b2 => walk_at "bd"))
  | (refine' B.add ?b1 ?b2; (case b1 => walk_at "bd"); (case b2 => walk_at "bd"))
  | (refine' B.neg ?b1; (case b1 => walk_at "bd")))
local macro_rules | `(tactic| walk_at "da") => `(tactic| first
  | assumption
  | exact Da.int _
  | exact Da.non
  | exact Da.bl _
  | exact Da.str _
  | ((with_reducible refine' P3.mono (by assumption) ?d1); (case d1 => walk_at "da"))
  | ((with_reducible refine' Ra.mono (by assumption) ?d1); (case d1 => walk_at "da"))
  | ((with_reducible refine' TuR.mono (by assumption) ?d1); (case d1 => walk_at "da"))
  | ((with_reducible refine' LiR.mono (by assumption) ?d1); (case d1 => walk_at "da"))
  | ((with_reducible refine' Da.mono (by assumption) ?d1); (case d1 => walk_at "da")))
local macro_rules | `(tactic| walk_at "xt") => `(tactic| first
  | assumption
  | (refine' Xt.trans ?x1 (by assumption); (case x1 => walk_at "xt")))
local macro_rules | `(tactic| walk_at "w") => `(tactic| first
  | assumption
  | exact Xt.w2 (by assumption)
  | exact Xt.w1 (by assumption))
local macro_rules | `(tactic| walk_at "side") => `(tactic| first
  | assumption
  | (refine' B.cmul ?b1 ?b2 ?b3; (case b1 => walk_at "bd"); (case b2 => walk_at "bd"); (case b3 => first | decide | omega))
  | (refine' B.cdiv ?b1 ?b2 ?b3; (case b1 => assumption); (case b2 => walk_at "bd"); (case b3 => first | decide | omega)))
local macro_rules | `(tactic| walk_at "ea") => `(tactic| first
  | with_reducible exact ea_nil
  | ((with_reducible refine' ea_cons ?p1 ?p2); (case p1 => walk_at "ev"); (case p2 => walk_at "ea")))
local macro_rules | `(tactic| walk_at "et") => `(tactic| first
  | ((with_reducible refine' et_and ?p1 ?p2); (case p1 => walk_at "et"); (case p2 => intro _; walk_at "et"))
  | ((with_reducible refine' et_or ?p1 ?p2); (case p1 => walk_at "et"); (case p2 => intro _; walk_at "et"))
  | ((with_reducible refine' et_not ?p1); (case p1 => walk_at "et"))
  | ((with_reducible refine' et_test ?p1); (case p1 => walk_at "ev"))
  | ((with_reducible refine' et_B ?p1); (case p1 => walk_at "ev")))
local macro_rules | `(tactic| walk_at "ev") => `(tactic| first
  | with_reducible exact ev_c
  | ((with_reducible refine' ev_var ?v1); (case v1 => exact rfl))
  | ((with_reducible refine' ev_px ?p1 ?p2 ?p3); (case p1 => walk_at "ev"); (case p2 => walk_at "da"); (case p3 => with_reducible exact ev_c))
  | ((with_reducible refine' ev_py ?p1 ?p2 ?p3); (case p1 => walk_at "ev"); (case p2 => walk_at "da"); (case p3 => with_reducible exact ev_c))
  | ((with_reducible refine' ev_pw ?p1 ?p2 ?p3); (case p1 => walk_at "ev"); (case p2 => walk_at "da"); (case p3 => with_reducible exact ev_c))
  | ((with_reducible refine' ev_ixT ?p1 ?p2 ?p3 ?p4); (case p1 => walk_at "ev"); (case p2 => walk_at "da"); (case p3 => walk_at "ev"); (case p4 => first | exact rfl | assumption))
  | ((with_reducible refine' ev_ixL ?p1 ?p2 ?p3 ?p4); (case p1 => walk_at "ev"); (case p2 => walk_at "da"); (case p3 => walk_at "ev"); (case p4 => first | exact rfl | assumption))
  | ((with_reducible refine' ev_i0 ?p1 ?p2); (case p1 => walk_at "ev"); (case p2 => walk_at "ev"))
  | ((with_reducible refine' ev_iC ?p1 ?p2 ?p3); (case p1 => walk_at "ev"); (case p2 => walk_at "ev"); (case p3 => walk_at "side"))
  | ((with_reducible refine' ev_neg ?p1); (case p1 => walk_at "ev"))
  | ((with_reducible refine' ev_eq ?p1 ?p2 ?p3); (case p1 => walk_at "ev"); (case p2 => walk_at "ev"); (case p3 => exact rfl))
  | ((with_reducible refine' ev_ne ?p1 ?p2 ?p3); (case p1 => walk_at "ev"); (case p2 => walk_at "ev"); (case p3 => exact rfl))
  | ((with_reducible refine' ev_andV ?p1 ?p2); (case p1 => walk_at "ev"); (case p2 => intro _; walk_at "ev"))
  | ((with_reducible refine' ev_orV ?p1 ?p2); (case p1 => walk_at "ev"); (case p2 => intro _; walk_at "ev"))
  | ((with_reducible refine' ev_notV ?p1); (case p1 => walk_at "ev"))
  | ((with_reducible refine' ev_subB ?p1 ?p2); (case p1 => walk_at "ev"); (case p2 => walk_at "ev"))
  | ((with_reducible refine' ev_chI ?p1 ?p2 ?p3); (case p1 => walk_at "ev"); (case p2 => walk_at "ev"); (case p3 => walk_at "ev"))
  | ((with_reducible refine' ev_isInt ?p1 ?p2); (case p1 => walk_at "ev"); (case p2 => walk_at "da"))
  | ((with_reducible refine' ev_isBool ?p1 ?p2); (case p1 => walk_at "ev"); (case p2 => walk_at "da"))
  | ((with_reducible refine' ev_isStr ?p1 ?p2); (case p1 => walk_at "ev"); (case p2 => walk_at "da"))
  | ((with_reducible refine' ev_isTup ?p1 ?p2); (case p1 => walk_at "ev"); (case p2 => walk_at "da"))
  | ((with_reducible refine' ev_isLst ?p1 ?p2); (case p1 => walk_at "ev"); (case p2 => walk_at "da"))
  | ((with_reducible refine' ev_isTL ?p1 ?p2); (case p1 => walk_at "ev"); (case p2 => walk_at "da"))
  | ((with_reducible refine' ev_lenT ?p1 ?p2); (case p1 => walk_at "ev"); (case p2 => walk_at "da"))
  | ((with_reducible refine' ev_lenL ?p1 ?p2); (case p1 => walk_at "ev"); (case p2 => walk_at "da"))
  | ((with_reducible refine' ev_abs ?p1); (case p1 => walk_at "ev"))
  | ((with_reducible refine' ev_min2 ?p1 ?p2); (case p1 => walk_at "ev"); (case p2 => walk_at "ev"))
  | ((with_reducible refine' ev_int1 ?p1); (case p1 => walk_at "ev"))
  | ((with_reducible refine' ev_isN ?p1); (case p1 => walk_at "ev"))
  | ((with_reducible refine' ev_notN ?p1); (case p1 => walk_at "ev"))
  | ((with_reducible refine' ev_sign ?p1); (case p1 => walk_at "ev"))
  | ((with_reducible refine' ev_gcd ?p1 ?p2); (case p1 => walk_at "ev"); (case p2 => walk_at "ev"))
  | ((with_reducible refine' ev_is_in ?p1 ?p2 ?p3 ?p4); (case p1 => walk_at "ev"); (case p2 => walk_at "da"); (case p3 => walk_at "ev"); (case p4 => walk_at "ev"))
  | ((with_reducible refine' ev_doubled ?p1 ?p2 ?p3 ?p4 ?p5 ?p6 ?p7 ?p8 ?p9); (case p1 => walk_at "ev"); (case p2 => walk_at "ev"); (case p3 => walk_at "ev"); (case p4 => walk_at "da"); (case p5 => walk_at "da"); (case p6 => walk_at "da"); (case p7 => assumption); (case p8 => assumption); (case p9 => assumption))
  | ((with_reducible refine' ev_order_of ?p1 ?p2 ?p3 ?p4 ?p5 ?p6); (case p1 => walk_at "ev"); (case p2 => walk_at "ev"); (case p3 => walk_at "da"); (case p4 => walk_at "da"); (case p5 => assumption); (case p6 => assumption))
  | ((with_reducible refine' ev_turn_of ?p1 ?p2 ?p3 ?p4 ?p5 ?p6 ?p7 ?p8 ?p9); (case p1 => walk_at "ev"); (case p2 => walk_at "ev"); (case p3 => walk_at "ev"); (case p4 => walk_at "da"); (case p5 => walk_at "da"); (case p6 => walk_at "da"); (case p7 => assumption); (case p8 => assumption); (case p9 => assumption))
  | ((with_reducible refine' ev_is_between ?p1 ?p2 ?p3 ?p4 ?p5 ?p6 ?p7 ?p8 ?p9); (case p1 => walk_at "ev"); (case p2 => walk_at "ev"); (case p3 => walk_at "ev"); (case p4 => walk_at "da"); (case p5 => walk_at "da"); (case p6 => walk_at "da"); (case p7 => assumption); (case p8 => assumption); (case p9 => assumption)))
section
variable {P : Program} {w : World} {K : PySem.W.Frag} {mg : Str → Option Value} {base : Heap}
/-! sign -/
def G_sign : Gv := fun Z vs H R => ∃ n, vs = [.int n] ∧ R = IsV (.int (sgn n))
theorem sgn_b (n : Int) : b2i (decide (0 < n)) - b2i (decide (n < 0)) = sgn n := by
  unfold sgn b2i
  by_cases h : 0 < n
  · have h2 : ¬ n < 0 := by omega
    simp [h, h2]
  · by_cases h2 : n < 0 <;> simp [h, h2]
theorem ok_sign (T : Tx K mg) : FnOk P w K mg base CX0 1 T.f_sign T.d_sign ["number"] (spOf G_sign) := by
  refine T.F_sign.ok sc_sign (fun vs H Q E h => ?_) (fun cdv A outer s H vs Q E hr h => ?_)
  · obtain ⟨Z, R, _, ⟨n, rfl, _⟩, _⟩ := h
    rfl
  obtain ⟨Z, R, hw, ⟨n, rfl, rfl⟩, hq⟩ := h
  refine ⟨_, (pss_one (ps_ret (pe_op op_subB (pe_cmpR op_gt (pv 0) pe_int (nomark _)) (pe_cmpR op_lt (pv 0) pe_int (nomark _))))), ?_⟩
  refine s_ret (Z := Z) (by walk_at "w") (by walk_at "ev") fun v1 H1 e1 r1 => ?_
  rw [sgn_b] at r1
  exact hq _ _ (by walk_at "xt") r1
/-! is_in -/
def isIn (d : PyData) (lo hi : Int) : Bool := match d with
  | .int i => decide (lo ≤ i) && decide (i ≤ hi)
  | _ => false
def G_is_in : Gv := fun Z vs H R => ∃ v d lo hi, vs = [v, .int lo, .int hi] ∧ Da Z H v d ∧ R = IsV (.bl (isIn d lo hi))
theorem ok_is_in (T : Tx K mg) : FnOk P w K mg base CX0 1 T.f_is_in T.d_is_in ["value", "least", "most"] (spOf G_is_in) := by
  refine T.F_is_in.ok sc_is_in (fun vs H Q E h => ?_) (fun cdv A outer s H vs Q E hr h => ?_)
  · obtain ⟨Z, R, _, ⟨v, d, lo, hi, rfl, _⟩, _⟩ := h
    rfl
  obtain ⟨Z, R, hw, ⟨v, d, lo, hi, rfl, hd, rfl⟩, hq⟩ := h
  refine ⟨_, (pss_one (ps_ret (pe_and (pe_callB call_isi (by rfl) T.z_isinstance (by decide +kernel) (pa_cons (pv 0) (pa_cons (pe_bltn (v := .ty "int") (u := .type "int") (by rfl) T.z_int (by decide +kernel) rfl) pa_nil))) (pe_and (pe_not (pe_callB call_isi (by rfl) T.z_isinstance (by decide +kernel) (pa_cons (pv 0) (pa_cons (pe_bltn (v := .ty "bool") (u := .type "bool") (by rfl) T.z_bool (by decide +kernel) rfl) pa_nil)))) (pe_one (pe_chain op_le op_le (pv 1) (pv 0) (pv 2))))))), ?_⟩
  by_cases hk : (isI d && !isB d) = true
  · obtain ⟨i, rfl⟩ : ∃ i, d = .int i := by
      cases d <;> simp [isI, isB] at hk
      exact ⟨_, rfl⟩
    cases hd
    refine s_ret (Z := Z) (R := IsV (.bl (isIn (.int i) lo hi))) (by walk_at "w") ?_ fun v1 H1 e1 r1 => hq _ _ (by walk_at "xt") r1
    refine ev_is (v := .bl (isI (.int i) && (!isB (.int i) && (decide (lo ≤ i) && decide (i ≤ hi))))) (by walk_at "ev") ?_
    simp [isI, isB, isIn]
  · refine s_ret (Z := Z) (R := IsV (.bl (isIn d lo hi))) (by walk_at "w") ?_ fun v1 H1 e1 r1 => hq _ _ (by walk_at "xt") r1
    have hk2 : isI d = true → isB d = true := fun h => by
      cases h2 : isB d with
      | true => rfl
      | false => simp [h, h2] at hk
    refine ev_is (v := .bl (isI d && (!isB d && false))) (ev_andV (by walk_at "ev") fun h => ev_andV (by walk_at "ev") fun h2 => ?_) ?_
    · rw [hk2 h] at h2; cases h2
    · cases d <;> simp [isI, isB, isIn] at hk ⊢
/-! gcd -/
def G_gcd : Gv := fun Z vs H R => ∃ a b, vs = [.int a, .int b] ∧ R = IsV (.int (gcdI a b))
theorem ok_gcd (T : Tx K mg) : FnOk P w K mg base CX0 1 T.f_gcd T.d_gcd ["one", "other"] (spOf G_gcd) := by
  refine T.F_gcd.ok sc_gcd (fun vs H Q E h => ?_) (fun cdv A outer s H vs Q E hr h => ?_)
  · obtain ⟨Z, R, _, ⟨a, b, rfl, _⟩, _⟩ := h
    rfl
  obtain ⟨Z, R, hw, ⟨a, b, rfl, rfl⟩, hq⟩ := h
  refine ⟨_, (pss_cons (ps_par (i := 0) (j := 1) rfl sc_gcd.nd rfl rfl (by decide) rfl rfl (pa_cons (pe_callB call_abs (by rfl) T.z_abs (by decide +kernel) (pa_cons (pv 0) pa_nil)) (pa_cons (pe_callB call_abs (by rfl) T.z_abs (by decide +kernel) (pa_cons (pv 1) pa_nil)) pa_nil)) (by rfl))
  (pss_cons (ps_while PassesOwn.never (pt_cmpR op_ne (pv 1) pe_int (nomark _))
  (pss_one (ps_par (i := 0) (j := 1) rfl sc_gcd.nd rfl rfl (by decide) rfl rfl (pa_cons (pv 1) (pa_cons (pe_op op_modN (pv 0) (pv 1)) pa_nil)) (by rfl))))
  (pss_one (ps_ret (pv 0))))), ?_⟩
  rw [show L2.start nm_gcd [(.int a), (.int b)] = [some (.int a), some (.int b)] from rfl]
  refine q_par (Z := Z) (by walk_at "w") (by walk_at "ea") fun vs H1 e1 hv => ?_
  subst hv
  refine ⟨_, _, rfl, ?_⟩
  refine q_while (Z := Z) (fun m σ' H' => ∃ x y : Int, σ' = [some (.int x), some (.int y)] ∧ 0 ≤ x ∧ 0 ≤ y ∧ gcdI x y = gcdI a b ∧ m = y.toNat ∧ Xt Z H H') _ ⟨_, _, rfl, by split <;> omega, by split <;> omega, gcd_abs a b, rfl, e1⟩ fun m σ' H' ⟨x, y, es, hx, hy, hg, hm, e2⟩ => ?_
  subst es
  refine ⟨e2.w2, _, (by walk_at "et"), fun hb H2 e3 => ?_, fun hb H2 e3 => ?_⟩
  · have hy0 : y ≠ 0 := by
      intro z
      rw [z] at hb
      simp at hb
    refine (s_par (Z := Z) (RA := fun us _ => us = [.int y, .int (x.fmod y)]) (by walk_at "w") (ea_cons (by walk_at "ev") (ea_cons (by walk_at "ev") ea_nil)) fun us H3 e4 hv => ⟨_, _, hv, ?_⟩)
    refine ⟨(x.fmod y).toNat, ?_, y, x.fmod y, rfl, hy, ?_, ?_, rfl, by walk_at "xt"⟩
    · rw [Int.fmod_eq_emod_of_nonneg x hy, hm]
      have := Int.emod_lt_of_pos x (show 0 < y by omega)
      have := Int.emod_nonneg x hy0
      omega
    · rw [Int.fmod_eq_emod_of_nonneg x hy]
      exact Int.emod_nonneg x hy0
    · rw [gcd_turn hx (by omega), hg]
  · have hy0 : y = 0 := by
      simpa using hb
    subst hy0
    rw [gcd_zero hx] at hg
    refine s_ret (Z := Z) (by walk_at "w") (by walk_at "ev") fun v1 H3 e4 r1 => ?_
    rw [hg] at r1
    exact hq _ _ (by walk_at "xt") r1
section
variable {Z : Wd} {σ : L2.St} {H : Hp} {ta tb tc : TE} {E : XK}
theorem ev_doubled {va vb vc : V} {a b c : Pt} (h1 : Ev Z ta σ H (IsV va)) (h2 : Ev Z tb σ H (IsV vb)) (h3 : Ev Z tc σ H (IsV vc)) (pa : P3 Z va a H) (pb : P3 Z vb b H) (pc : P3 Z vc c H) (na : Nm a) (nb : Nm b) (nc : Nm c) :
    Ev Z (tCall (spOf G_doubled) [] E (tCons ta (tCons tb (tCons tc tNil)))) σ H (IsV (.int (det a b c))) :=
  ev_call (ea_cons h1 (ea_cons h2 (ea_cons h3 ea_nil))) fun H1 e => ⟨va, vb, vc, a, b, c, rfl, pa.mono e, pb.mono e, pc.mono e, na, nb, nc, rfl⟩
theorem ev_sign {n : Int} (h1 : Ev Z ta σ H (IsV (.int n))) : Ev Z (tCall (spOf G_sign) [] E (tCons ta tNil)) σ H (IsV (.int (sgn n))) := ev_call (ea_cons h1 ea_nil) fun H1 e => ⟨n, rfl, rfl⟩
theorem ev_is_in {v : V} {d : PyData} {lo hi : Int} (h1 : Ev Z ta σ H (IsV v)) (hd : Da Z H v d) (h2 : Ev Z tb σ H (IsV (.int lo))) (h3 : Ev Z tc σ H (IsV (.int hi))) :
    Ev Z (tCall (spOf G_is_in) [] E (tCons ta (tCons tb (tCons tc tNil)))) σ H (IsV (.bl (isIn d lo hi))) :=
  ev_call (ea_cons h1 (ea_cons h2 (ea_cons h3 ea_nil))) fun H1 e => ⟨v, d, lo, hi, rfl, hd.mono e, rfl⟩
theorem ev_gcd {a b : Int} (h1 : Ev Z ta σ H (IsV (.int a))) (h2 : Ev Z tb σ H (IsV (.int b))) : Ev Z (tCall (spOf G_gcd) [] E (tCons ta (tCons tb tNil))) σ H (IsV (.int (gcdI a b))) :=
  ev_call (ea_cons h1 (ea_cons h2 ea_nil)) fun H1 e => ⟨a, b, rfl, rfl⟩
end
end
end Hk
/-! ## G3 -/
/-! points in lowest terms, their order -/
namespace Hk
def LG : Int := 1000000000000
/-- a point as the program takes it -/
structure Ok (p : Pt) : Prop where
  x : -LG ≤ p.x ∧ p.x ≤ LG
  y : -LG ≤ p.y ∧ p.y ≤ LG
  w : 1 ≤ p.w ∧ p.w ≤ LG
  g : gcdI (gcdI p.x p.y) p.w = 1
def lx (a b : Pt) : Int := b.x * a.w - a.x * b.w
def ly (a b : Pt) : Int := b.y * a.w - a.y * b.w
/-- a comes before b -/
def plt (a b : Pt) : Prop := 0 < lx a b ∨ (lx a b = 0 ∧ 0 < ly a b)
theorem gcd3 {d x y w : Int} (hx : d ∣ x) (hy : d ∣ y) (hw : d ∣ w) : d ∣ gcdI (gcdI x y) w := by
  unfold gcdI
  exact Int.dvd_coe_gcd (Int.dvd_coe_gcd hx hy) hw
theorem gcd_scale {a b : Pt} (ha : 0 < a.w) (hb : 0 < b.w) (hx : a.x * b.w = b.x * a.w) (hy : a.y * b.w = b.y * a.w) (hg : gcdI (gcdI a.x a.y) a.w = 1) : a.w ∣ b.w := by
  -- a.w divides b.w times each of a.x, a.y, a.w
  have h1 : a.w ∣ b.w * a.x := ⟨b.x, by rw [Int.mul_comm, hx, Int.mul_comm]⟩
  have h2 : a.w ∣ b.w * a.y := ⟨b.y, by rw [Int.mul_comm, hy, Int.mul_comm]⟩
  have h3 : a.w ∣ b.w * a.w := ⟨b.w, Int.mul_comm _ _⟩
  have e : gcdI (gcdI (b.w * a.x) (b.w * a.y)) (b.w * a.w) = b.w * gcdI (gcdI a.x a.y) a.w := by
    unfold gcdI
    rw [Int.gcd_mul_left]
    have : ((b.w.natAbs * Int.gcd a.x a.y : Nat) : Int) = b.w * ((Int.gcd a.x a.y : Nat) : Int) := by
      rw [Int.natCast_mul]
      congr 1
      omega
    rw [this, Int.gcd_mul_left, Int.natCast_mul]
    congr 1
    omega
  have h := gcd3 h1 h2 h3
  rw [e, hg, Int.mul_one] at h
  exact h
/-- two points in lowest terms at one place are one -/
theorem canon {a b : Pt} (ha : Ok a) (hb : Ok b) (hx : lx a b = 0) (hy : ly a b = 0) : a = b := by
  have wa : 0 < a.w := by have := ha.w.1; omega
  have wb : 0 < b.w := by have := hb.w.1; omega
  unfold lx at hx
  unfold ly at hy
  have d1 := gcd_scale wa wb (by omega) (by omega) ha.g
  have d2 := gcd_scale wb wa (by omega) (by omega) hb.g
  have hw : a.w = b.w := by
    have l1 := Int.le_of_dvd wb d1
    have l2 := Int.le_of_dvd wa d2
    omega
  rw [hw] at hx hy
  have e1 : a.x = b.x := by
    have : (b.x - a.x) * b.w = 0 := by rw [Int.sub_mul]; exact hx
    rcases Int.mul_eq_zero.mp this with h | h <;> omega
  have e2 : a.y = b.y := by
    have : (b.y - a.y) * b.w = 0 := by rw [Int.sub_mul]; exact hy
    rcases Int.mul_eq_zero.mp this with h | h <;> omega
  cases a; cases b
  simp only [Pt.mk.injEq] at *
  exact ⟨e1, e2, hw⟩
theorem lx_sw (a b : Pt) : lx b a = - lx a b := by unfold lx; omega
theorem ly_sw (a b : Pt) : ly b a = - ly a b := by unfold ly; omega
theorem plt_tri {a b : Pt} (ha : Ok a) (hb : Ok b) (h : a ≠ b) : plt a b ∨ plt b a := by
  unfold plt
  rw [lx_sw a b, ly_sw a b]
  rcases Int.lt_trichotomy (lx a b) 0 with h1 | h1 | h1
  · right; left; omega
  · rcases Int.lt_trichotomy (ly a b) 0 with h2 | h2 | h2
    · right; right; omega
    · exact absurd (canon ha hb h1 h2) h
    · left; right; exact ⟨h1, h2⟩
  · left; left; exact h1
theorem plt_asym {a b : Pt} (h : plt a b) : ¬ plt b a := by
  unfold plt at *
  rw [lx_sw a b, ly_sw a b]
  omega
theorem plt_irr (a : Pt) : ¬ plt a a := fun h => plt_asym h h
def ordP (a b : Pt) : Int := if sgn (a.x * b.w - b.x * a.w) ≠ 0 then sgn (a.x * b.w - b.x * a.w) else sgn (a.y * b.w - b.y * a.w)
theorem sgn_neg (n : Int) : (sgn n < 0) ↔ n < 0 := by unfold sgn; split <;> (try split) <;> omega
theorem sgn_pos (n : Int) : (0 < sgn n) ↔ 0 < n := by unfold sgn; split <;> (try split) <;> omega
theorem sgn_zero (n : Int) : (sgn n = 0) ↔ n = 0 := by unfold sgn; split <;> (try split) <;> omega
theorem ord_lt (a b : Pt) : ordP a b < 0 ↔ plt a b := by
  unfold ordP plt lx ly
  by_cases h : sgn (a.x * b.w - b.x * a.w) ≠ 0
  · rw [if_pos h]
    have h1 : a.x * b.w - b.x * a.w ≠ 0 := fun z => h ((sgn_zero _).mpr z)
    rw [sgn_neg]
    omega
  · rw [if_neg h]
    have h1 : a.x * b.w - b.x * a.w = 0 := (sgn_zero _).mp (by omega)
    rw [sgn_neg]
    omega
theorem ord_gt (a b : Pt) : 0 < ordP a b ↔ plt b a := by
  unfold ordP plt lx ly
  by_cases h : sgn (a.x * b.w - b.x * a.w) ≠ 0
  · rw [if_pos h]
    have h1 : a.x * b.w - b.x * a.w ≠ 0 := fun z => h ((sgn_zero _).mpr z)
    rw [sgn_pos]
    omega
  · rw [if_neg h]
    have h1 : a.x * b.w - b.x * a.w = 0 := (sgn_zero _).mp (by omega)
    rw [sgn_pos]
    omega
theorem ord_eq {a b : Pt} (ha : Ok a) (hb : Ok b) : ordP a b = 0 ↔ a = b := by
  constructor
  · intro h
    rcases Classical.em (a = b) with e | e
    · exact e
    · rcases plt_tri ha hb e with h1 | h1
      · have := (ord_lt a b).mpr h1; omega
      · have := (ord_gt a b).mpr h1; omega
  · rintro rfl
    have h1 := plt_irr a
    have h2 : ¬ ordP a a < 0 := fun h => h1 ((ord_lt a a).mp h)
    have h3 : ¬ 0 < ordP a a := fun h => h1 ((ord_gt a a).mp h)
    omega
theorem ord_le {a b : Pt} : ordP a b ≤ 0 ↔ ¬ plt b a := by
  rw [← ord_gt]; omega
/-! the common weight -/
def cwF (f w : Int) : Int := f.fdiv (gcdI f w) * w
def cw (L : List Pt) : Int := L.foldl (fun f p => cwF f p.w) 1
theorem cwF_key {f w g : Int} (hf : 0 < f) (hw : 0 < w) (hg : 0 < g) (h1 : g ∣ f) (h2 : g ∣ w) : 0 < f.fdiv g * w ∧ f ∣ f.fdiv g * w ∧ w ∣ f.fdiv g * w ∧ f.fdiv g * w ≤ f * w := by
  rw [Int.fdiv_eq_ediv_of_dvd h1]
  obtain ⟨k, rfl⟩ := h1
  obtain ⟨l, rfl⟩ := h2
  have e : g * k / g = k := Int.mul_ediv_cancel_left k (by omega)
  rw [e]
  have hk : 0 < k := Int.pos_of_mul_pos_right hf (by omega) |> fun h => by first | exact h | omega
  have hl : 0 < l := Int.pos_of_mul_pos_right hw (by omega) |> fun h => by first | exact h | omega
  refine ⟨Int.mul_pos hk hw, ⟨l, by grind⟩, ⟨k, by grind⟩, ?_⟩
  have h3 : k * (g * l) ≤ (g * k) * (g * l) := by
    refine Int.mul_le_mul_of_nonneg_right ?_ (Int.le_of_lt hw)
    have : 1 * k ≤ g * k := Int.mul_le_mul_of_nonneg_right (by omega) (Int.le_of_lt hk)
    omega
  exact h3
theorem cwF_ok {f w : Int} (hf : 0 < f) (hw : 0 < w) : 0 < cwF f w ∧ f ∣ cwF f w ∧ w ∣ cwF f w ∧ cwF f w ≤ f * w :=
  cwF_key hf hw (gcd_pos (by omega)) (gcd_dl f w) (gcd_dr f w)
theorem cw_fold : ∀ (L : List Pt) (f : Int), 0 < f → (∀ p ∈ L, 0 < p.w) → 0 < L.foldl (fun f p => cwF f p.w) f ∧ f ∣ L.foldl (fun f p => cwF f p.w) f ∧ ∀ p ∈ L, p.w ∣ L.foldl (fun f p => cwF f p.w) f
  | [], f, hf, _ => ⟨hf, Int.dvd_refl f, fun p hp => by cases hp⟩
  | q :: r, f, hf, hw => by
    obtain ⟨h1, h2, h3, _⟩ := cwF_ok hf (hw q (by simp))
    obtain ⟨k1, k2, k3⟩ := cw_fold r (cwF f q.w) h1 fun p hp => hw p (List.mem_cons_of_mem _ hp)
    refine ⟨k1, Int.dvd_trans h2 k2, fun p hp => ?_⟩
    rcases List.mem_cons.mp hp with rfl | hp
    · exact Int.dvd_trans h3 k2
    · exact k3 p hp
theorem cw_pos {L : List Pt} (h : ∀ p ∈ L, 0 < p.w) : 0 < cw L := (cw_fold L 1 (by omega) h).1
theorem cw_dvd {L : List Pt} (h : ∀ p ∈ L, 0 < p.w) {p : Pt} (hp : p ∈ L) : p.w ∣ cw L := (cw_fold L 1 (by omega) h).2.2 p hp
/-- the key by which points are ranked -/
def keyP (m : Int) (p : Pt) : Int × Int := (p.x * (m.fdiv p.w), p.y * (m.fdiv p.w))
theorem key_plt {m : Int} {a b : Pt} (hm : 0 < m) (wa : 0 < a.w) (wb : 0 < b.w) (da : a.w ∣ m) (db : b.w ∣ m) :
    ((keyP m a).1 < (keyP m b).1 ↔ 0 < lx a b) ∧ ((keyP m a).1 = (keyP m b).1 ↔ lx a b = 0) ∧ ((keyP m a).2 < (keyP m b).2 ↔ 0 < ly a b) ∧ ((keyP m a).2 = (keyP m b).2 ↔ ly a b = 0) := by
  unfold keyP lx ly
  rw [Int.fdiv_eq_ediv_of_dvd da, Int.fdiv_eq_ediv_of_dvd db]
  obtain ⟨k, hk⟩ := da
  obtain ⟨l, hl⟩ := db
  have ek : m / a.w = k := by rw [hk]; exact Int.mul_ediv_cancel_left k (by omega)
  have el : m / b.w = l := by rw [hl]; exact Int.mul_ediv_cancel_left l (by omega)
  rw [ek, el]
  have hk0 : 0 < k := by
    rcases Int.lt_or_le 0 k with h | h
    · exact h
    · have := Int.mul_le_mul_of_nonneg_left h (Int.le_of_lt wa)
      omega
  have hl0 : 0 < l := by
    rcases Int.lt_or_le 0 l with h | h
    · exact h
    · have := Int.mul_le_mul_of_nonneg_left h (Int.le_of_lt wb)
      omega
  have hkl := Int.mul_pos hk0 hl0
  have e : a.w * k = b.w * l := by rw [← hk, ← hl]
  -- multiplied by k l, the difference of the keys is that of the cross products
  have gen : ∀ s t : Int, (t * l - s * k) * m = (t * a.w - s * b.w) * (k * l) := fun s t => by
    have h1 : m = a.w * k := hk
    have h2 : m = b.w * l := hl
    grind
  have sgnEq : ∀ s t : Int, (s * k < t * l ↔ 0 < t * a.w - s * b.w) ∧ (s * k = t * l ↔ t * a.w - s * b.w = 0) := fun s t => by
    have g := gen s t
    constructor
    · constructor
      · intro h
        have := Int.mul_pos (show 0 < t * l - s * k by omega) hm
        exact pos_of (by rw [← g]) hkl this
      · intro h
        have := Int.mul_pos h hkl
        have h2 := pos_of (x := t * l - s * k) (k := m) g hm this
        omega
    · constructor
      · intro h
        have e0 : (t * l - s * k) * m = 0 := by rw [show t * l - s * k = 0 by omega, Int.zero_mul]
        exact zero_of g.symm hkl e0
      · intro h
        have e0 : (t * a.w - s * b.w) * (k * l) = 0 := by rw [h, Int.zero_mul]
        have h2 := zero_of (x := t * l - s * k) (k := m) g hm e0
        omega
  exact ⟨(sgnEq a.x b.x).1, (sgnEq a.x b.x).2, (sgnEq a.y b.y).1, (sgnEq a.y b.y).2⟩
theorem key_lt {m : Int} {a b : Pt} (hm : 0 < m) (wa : 0 < a.w) (wb : 0 < b.w) (da : a.w ∣ m) (db : b.w ∣ m) (ha : Ok a) (hb : Ok b) (hne : a ≠ b)
    (h : (keyP m a).1 < (keyP m b).1 ∨ ((keyP m a).1 = (keyP m b).1 ∧ (keyP m a).2 ≤ (keyP m b).2)) : plt a b := by
  obtain ⟨h1, h2, h3, h4⟩ := key_plt hm wa wb da db
  rcases plt_tri ha hb hne with h5 | h5
  · exact h5
  · exfalso
    unfold plt at h5
    rw [lx_sw a b, ly_sw a b] at h5
    rcases h with h | ⟨h, h'⟩
    · have := h1.mp h; omega
    · have e1 := h2.mp h
      rcases Int.lt_or_eq_of_le h' with h6 | h6
      · have := h3.mp h6; omega
      · have := h4.mp h6; omega
end Hk
/-! ## R4 -/
/-! sorted of a tuple of ints -/
namespace Hk
open PySem PySem.Spec PySem.W PyProof.Rows L2
def rSortedTI (K : PySem.W.Frag) : List V → Hp → VK → Prop := fun vs H Q => ∃ (a : Addr) (ns : List Int), vs = [V.ref a] ∧ SqT K H a (ns.map V.int) ∧ ns.length < 64 ∧
  ∀ (ns' : List Int) (p : Addr), ns'.Perm ns → ns'.Pairwise (· ≤ ·) → H p = none → Q (.ref p) (upd H p (.lst (ns'.map V.int)))
theorem cr_sortedT {X : Cx} : CallR X (.builtin "sorted") (rSortedTI X.K) := by
  intro pins s σ H vs us Q I r h
  obtain ⟨a, ns, rfl, hs, h64, q⟩ := h
  obtain ⟨its, rv, ⟨o, ho, hc, n, hd⟩, hz⟩ := I.tuple hs
  rw [Vals.ref1 r]
  have hi := rv.ints
  have hlen : its.length = ns.length := hi.length
  refine call_function_entry_kw kind_sorted plain_sorted entry_sorted (args_sorted1 _) ?_
  unfold Builtin.«sorted»
  refine wpAny_bind (m := checkCount "sorted" 1 1 _) (wpAny_pure ?_)
  refine wpAny_bind (wpAny_collect_seq a (.inr rfl) ho hc hd (fun h0 hk0 => ?_) (by rw [List.size_toArray]; have := rv.length; omega))
  have e0 : its.toArray.toList = its := by simp
  rw [e0]
  refine wpAny_bind (wpAny_newList ?_ (by rw [sizeLine_eq]; omega))
  have hoL : (h0.push (seqObj "list" its.toArray 0)).get? h0.objs.size = some (seqObj "list" its.toArray 0) := Heap.get?_push_size _ rfl
  refine wpAny_bind (wpAny_holding (wpAny_call_entry_kw slot_list_sort ⟨_, hoL, rfl⟩ entry_list_sort ?body (args_list_sort _)))
  case body =>
    refine list_sort_tree (s := { s with heap := h0.push (seqObj "list" its.toArray 0) }) hoL hi (by omega) fun out ns' h1 h2 h3 => ?_
    refine ⟨_, rfl, wpAny_pure ⟨_, rfl, ?_⟩⟩
    obtain ⟨ep, he'⟩ := PyProof.Rows.sortedHeap_at (vs := its) (out := out) hoL
    have I0 : Inv X pins σ H { s with heap := h0 } := I.kept (t' := s.toks) hk0
    refine ⟨.ref h0.objs.size, upd H h0.objs.size (.lst (ns'.map V.int)), I0.laid (t' := s.toks) (fun b u hu => ?_) (Nat.le_refl _) ⟨?_, out.toList, ep, vals_of_ints h1, he'⟩, rfl, q ns' _ h2 h3 (I0.hok.fresh (Nat.le_refl _))⟩
    · have hne : b ≠ h0.objs.size := Nat.ne_of_lt (Heap.lt_size hu)
      rw [PyProof.Rows.sortedHeap_old hne (Heap.lt_size (Heap.get?_push_of_some _ hu))]
      exact Heap.get?_push_of_some _ hu
    · rw [List.length_map, h2.length_eq, sizeLine_eq]; omega
end Hk
/-! ## E4 -/
/-! slices, comprehensions, in, sorted, and the like -/
namespace Hk
open PySem PySem.Spec PyProof.Rows L2
section
variable {Z : Wd} {K : PySem.W.Frag} {σ : L2.St} {H : Hp} {ta tb te tl : TE} {t u : TT} {x y z v : V} {R : Rl} {d : PyData} {D : Ends} {tu tz : TS} {g : TG}
theorem Da.tupE {ds : List PyData} (h : Da Z H v (.tuple ds)) : ∃ xs, TuR Z xs v H ∧ DaL Z H xs ds := by
  cases h with
  | tup h1 h2 h3 => exact ⟨_, ⟨_, rfl, h1, h2⟩, h3⟩
theorem Da.lstE {ds : List PyData} (h : Da Z H v (.list ds)) : ∃ xs, LiR Z xs v H ∧ DaL Z H xs ds := by
  cases h with
  | lst h1 h2 h3 => exact ⟨_, ⟨_, rfl, h1, h2⟩, h3⟩
theorem TuR.da {ds : List PyData} {xs : List V} (h : TuR Z xs v H) (hd : DaL Z H xs ds) : Da Z H v (.tuple ds) := by
  obtain ⟨a, rfl, h1, h2⟩ := h
  exact .tup h1 h2 hd
theorem LiR.da {ds : List PyData} {xs : List V} (h : LiR Z xs v H) (hd : DaL Z H xs ds) : Da Z H v (.list ds) := by
  obtain ⟨a, rfl, h1, h2⟩ := h
  exact .lst h1 h2 hd
/-! ints and their data -/
theorem daL_ints : ∀ ns : List Int, DaL Z H (ns.map V.int) (ns.map PyData.int)
  | [] => .nil
  | n :: r => .cons (.int n) (daL_ints r)
theorem ints_daL : ∀ {ns : List Int} {xs : List V}, DaL Z H xs (ns.map PyData.int) → xs = ns.map V.int
  | [], _, h => by cases h; rfl
  | n :: r, _, h => by
    cases h with
    | cons a b =>
      cases a
      rw [ints_daL b]; rfl

/-! ### slices -/
def EvO (Z : Wd) (to : TO) (σ : L2.St) (H : Hp) (o : Option Int) : Prop := ∀ H1, Xt Z H H1 → ∀ Q : Option Int → Hp → Prop, (∀ H2, Xt Z H1 H2 → Q o H2) → to σ H1 Q
theorem eo_none : EvO Z tNoPart σ H none := fun H1 e _ q => q H1 (.refl e.w2)
theorem eo_some {i : Int} (h : Ev Z te σ H (IsV (.int i))) : EvO Z (tPart te) σ H (some i) := fun H1 e _ q => h H1 e _ fun v H2 e2 hv => ⟨i, hv, q H2 e2⟩
theorem cutV_whole {xs : List V} {lo hi : Option Int} (h : HT.sIx xs.length 0 lo = 0 ∧ HT.sIx xs.length xs.length hi = xs.length) : cutV xs lo hi = xs := by
  unfold cutV
  rw [h.1, h.2]
  simp
theorem ev_slT {th tlo : TO} {xs : List V} {lo hi : Option Int} (h : Ev Z te σ H (IsV v)) (hx : TuR Z xs v H) (h1 : EvO Z tlo σ H lo) (h2 : EvO Z th σ H hi) : Ev Z (tSl (rSlA K) te tlo th) σ H (TuR Z (cutV xs lo hi)) := fun H1 e Q q =>
  h H1 e _ fun w H2 e2 hw => by
    subst hw
    refine h1 H2 (e.trans e2) _ fun H3 e3 => h2 H3 ((e.trans e2).trans e3) _ fun H4 e4 => ?_
    have e14 := (e2.trans e3).trans e4
    obtain ⟨a, rfl, k1, k2⟩ := hx.mono (e.trans e14)
    refine ⟨a, xs, rfl, .inl k1.h, fun hw => q _ H4 e14 ⟨a, rfl, by rw [cutV_whole hw]; exact k1, k2⟩, fun _ p hp => q _ _ (e14.trans (.new e14.w2 hp)) ⟨p, rfl, ⟨.inl upd_same⟩, nS e14.w2 hp⟩⟩
/-- a slice of a list: new -/
theorem en_slL {th tlo : TO} {xs : List V} {lo hi : Option Int} {R : Rl} (h : Ev Z te σ H R) (hx : ∀ v H1, Xt Z H H1 → R v H1 → LiR Z xs v H1) (h1 : EvO Z tlo σ H lo) (h2 : EvO Z th σ H hi) : EvN Z (tSl (rSlL K) te tlo th) σ H (fun p H2 => H2 p = some (.lst (cutV xs lo hi)) ∧ ¬ Z.S p) := fun H1 e Q q =>
  h H1 e _ fun w H2 e2 hw => by
    refine h1 H2 (e.trans e2) _ fun H3 e3 => h2 H3 ((e.trans e2).trans e3) _ fun H4 e4 => ?_
    have e14 := (e2.trans e3).trans e4
    obtain ⟨a, rfl, k1, k2⟩ := (hx w H2 (e.trans e2) hw).mono (e3.trans e4)
    exact ⟨a, xs, rfl, .inl (.inl k1), fun p hp => q p _ (e14.back hp) (nS e14.w2 hp) (e14.trans (.new e14.w2 hp)) ⟨upd_same, nS e14.w2 hp⟩⟩
theorem cut_front (xs : List V) (n : Nat) (h : n ≤ xs.length) : cutV xs none (some (n : Int)) = xs.take n := by
  unfold cutV
  rw [show HT.sIx xs.length 0 none = 0 from HT.sIx_none .., HT.sIx_nat]
  rw [Nat.min_eq_left h]
  simp
theorem cut_rest (xs : List V) : cutV xs (some 1) none = xs.drop 1 := by
  unfold cutV
  rw [show HT.sIx xs.length 0 (some 1) = min 1 xs.length from HT.sIx_nat xs.length 0 1, HT.sIx_none]
  cases xs with
  | nil => rfl
  | cons x r =>
    rw [show min 1 (x :: r).length = 1 by
      rw [List.length_cons]
      omega]
    show (List.take ((x :: r).length - 1) r) = r
    rw [List.length_cons, Nat.add_sub_cancel]
    exact List.take_length
theorem cut_last (xs : List V) : cutV xs none (some (-1)) = xs.dropLast := by
  unfold cutV
  have h0 : HT.sIx xs.length 0 none = 0 := HT.sIx_none ..
  have h1 : HT.sIx xs.length xs.length (some (-1)) = xs.length - 1 := by
    unfold HT.sIx
    simp
    omega
  rw [h0, h1, List.dropLast_eq_take]
  simp

/-! ### in, not in -/
theorem ev_inTD {ds : List PyData} (ha : Ev Z ta σ H (DaR Z d)) (hb : Ev Z tb σ H (DaR Z (.tuple ds))) (nd : nod d = true) (ne : nodL ds = true) (sd : SeqAt.shaped d = true) (se : SeqAt.shaped (.tuple ds) = true) :
    Ev Z (tOp (rInTD K) ta tb) σ H (IsV (.bl (ds.any fun z => PyData.eqv z d))) := ev_opX (Rb := fun _ => DaR Z (.tuple ds)) ha (fun _ _ e1 _ => hb.mono e1) fun x y H1 H2 e1 e2 hx hy Q q =>
  ⟨d, ds, (hx.mono e2).dp nd, Da.dp hy (by simpa [nod] using ne), sd, se, q _ H2 (.refl e2.w2) rfl⟩
theorem ev_notInTD {ds : List PyData} (ha : Ev Z ta σ H (DaR Z d)) (hb : Ev Z tb σ H (DaR Z (.tuple ds))) (nd : nod d = true) (ne : nodL ds = true) (sd : SeqAt.shaped d = true) (se : SeqAt.shaped (.tuple ds) = true) :
    Ev Z (tOp (rNotInTD K) ta tb) σ H (IsV (.bl (!ds.any fun z => PyData.eqv z d))) := ev_opX (Rb := fun _ => DaR Z (.tuple ds)) ha (fun _ _ e1 _ => hb.mono e1) fun x y H1 H2 e1 e2 hx hy Q q =>
  ⟨d, ds, (hx.mono e2).dp nd, Da.dp hy (by simpa [nod] using ne), sd, se, q _ H2 (.refl e2.w2) rfl⟩
theorem ev_notInD {ds : List PyData} (ha : Ev Z ta σ H (DaR Z d)) (hb : Ev Z tb σ H (DaR Z (.list ds))) (nd : nod d = true) (ne : nodL ds = true) (sd : SeqAt.shaped d = true) (se : SeqAt.shaped (.list ds) = true) :
    Ev Z (tOp (rNotInD K) ta tb) σ H (IsV (.bl (!ds.any fun z => PyData.eqv z d))) := ev_opX (Rb := fun _ => DaR Z (.list ds)) ha (fun _ _ e1 _ => hb.mono e1) fun x y H1 H2 e1 e2 hx hy Q q =>
  ⟨d, ds, (hx.mono e2).dp nd, Da.dp hy (by simpa [nod] using ne), sd, se, q _ H2 (.refl e2.w2) rfl⟩
/-- an int in a written tuple of ints -/
theorem ev_notInI {vs : List V} {i : Int} {ta' : TA} (ha : Ev Z ta σ H (IsV (.int i))) (hb : EvA Z ta' σ H (fun us _ => us = vs)) (hv : vs.all flatV = true) (hl : vs.length ≤ 100000) : Ev Z (tOp (rIn K true) ta (tTup ta')) σ H (IsV (.bl (!inV (.int i) vs))) :=
  ev_opX (Rb := fun _ => TuR Z vs) ha (fun _ _ e1 _ => (ev_tup hb hl).mono e1) fun x y H1 H2 e1 e2 hx ⟨a, ea, h1, h2⟩ Q q => by
    subst hx
    exact ⟨a, vs, ea, .inr (.inl h1.h), rfl, hv, q _ H2 (.refl e2.w2) rfl⟩

/-! ### comprehensions -/
def givenD (n : Nat) (f : Nat → Bool) (d : Nat → PyData) : List PyData := ((List.range n).filter f).map d
theorem givenD_yes {n : Nat} {f : Nat → Bool} {d : Nat → PyData} (h : f n = true) : givenD (n + 1) f d = givenD n f d ++ [d n] := by
  unfold givenD
  rw [List.range_succ, List.filter_append, List.map_append, List.filter_cons, if_pos h] <;> rfl
theorem givenD_no {n : Nat} {f : Nat → Bool} {d : Nat → PyData} (h : f n = false) : givenD (n + 1) f d = givenD n f d := by
  unfold givenD
  rw [List.range_succ, List.filter_append, List.map_append, List.filter_cons, if_neg (by rw [h]; decide)]
  show _ ++ [] = _
  rw [List.append_nil]
theorem givenD_len (n : Nat) (f : Nat → Bool) (d : Nat → PyData) : (givenD n f d).length ≤ n := by
  unfold givenD
  rw [List.length_map]
  have h := List.length_filter_le f (List.range n)
  rw [List.length_range] at h
  exact h
theorem givenD_all (n : Nat) (d : Nat → PyData) : givenD n (fun _ => true) d = (List.range n).map d := by
  unfold givenD
  rw [List.filter_eq_self.mpr (fun _ _ => rfl)]
/-- what holds between two turns -/
def Cw (Z : Wd) (H : Hp) (f : Nat → Bool) (d : Nat → PyData) (Dl : Addr) (i : Nat) (H' : Hp) : Prop := Fr H Dl ∧ ¬ Z.S Dl ∧ Xt Z H H' ∧ ∃ acc, H' Dl = some (.lst acc) ∧ DaL Z H' acc (givenD i f d)
theorem cw_zero {f : Nat → Bool} {dd : Nat → PyData} {Dl : Addr} (w : Z.W H) (h : H Dl = none) : Cw Z H f dd Dl 0 (upd H Dl (.lst [])) := ⟨.of h, nS w h, .new w h, [], upd_same, .nil⟩
end
/-! data without a list: it does not see a list change -/
mutual
def noL : PyData → Bool
  | .list _ => false
  | .tuple ds => noLL ds
  | .dict _ => true
  | _ => true
def noLL : List PyData → Bool
  | [] => true
  | d :: ds => noL d && noLL ds
end
theorem noLL_all : ∀ {ds : List PyData}, (∀ d ∈ ds, noL d = true) → noLL ds = true
  | [], _ => by simp [noLL]
  | d :: ds, h => by
    rw [noLL, h d (by simp), noLL_all fun e he => h e (List.mem_cons_of_mem _ he)]
    rfl
theorem nodL_all : ∀ {ds : List PyData}, (∀ d ∈ ds, nod d = true) → nodL ds = true
  | [], _ => by simp [nodL]
  | d :: ds, h => by
    rw [nodL, h d (by simp), nodL_all fun e he => h e (List.mem_cons_of_mem _ he)]
    rfl
section
variable {Z : Wd} {H' : Hp} {p : Addr} {xs0 ys : List V}
theorem rd_mut {a : Addr} {xs : List V} (hp : H' p = some (.lst xs0)) (h : RdT H' a xs) : RdT (upd H' p (.lst ys)) a xs := by
  rcases h.h with h | ⟨ob, h⟩
  · refine ⟨.inl ?_⟩
    rw [upd_ne (ne_of h hp (by intro z; cases z))]
    exact h
  · refine ⟨.inr ⟨ob, ?_⟩⟩
    rw [upd_ne (ne_of h hp (by intro z; cases z))]
    exact h
mutual
theorem Da.mut (hp : H' p = some (.lst xs0)) : ∀ {d : PyData} {v : V}, noL d = true → Da Z H' v d → Da Z (upd H' p (.lst ys)) v d
  | .none, _, _, h => by cases h; exact .non
  | .bool b, _, _, h => by cases h; exact .bl b
  | .int i, _, _, h => by cases h; exact .int i
  | .str x, _, _, h => by cases h; exact .str x
  | .list ds, _, n, _ => by simp [noL] at n
  | .tuple ds, _, n, h => by
    cases h with
    | tup h1 h2 h3 =>
      exact .tup (rd_mut hp h1) h2 (DaL.mut hp (by simpa [noL] using n) h3)
  | .dict ds, _, _, h => by
    cases h with
    | dct h1 h2 =>
      refine .dct ?_ h2
      rw [upd_ne (ne_of h1 hp (by intro z; cases z))]
      exact h1
theorem DaL.mut (hp : H' p = some (.lst xs0)) : ∀ {ds : List PyData} {vs : List V}, noLL ds = true → DaL Z H' vs ds → DaL Z (upd H' p (.lst ys)) vs ds
  | [], _, _, h => by cases h; exact .nil
  | d :: ds, _, n, h => by
    cases h with
    | cons h1 h2 =>
      rw [noLL, Bool.and_eq_true] at n
      exact .cons (Da.mut hp n.1 h1) (DaL.mut hp n.2 h2)
end
theorem TuR.mut {vs : List V} {v : V} (hp : H' p = some (.lst xs0)) (h : TuR Z vs v H') : TuR Z vs v (upd H' p (.lst ys)) := by
  obtain ⟨a, e, h1, h2⟩ := h
  exact ⟨a, e, rd_mut hp h1, h2⟩
theorem P3.mut {v : V} {q : Pt} (hp : H' p = some (.lst xs0)) (h : P3 Z v q H') : P3 Z v q (upd H' p (.lst ys)) := TuR.mut hp h
theorem LiR.mut {vs : List V} {v : V} (hn : v ≠ .ref p) (h : LiR Z vs v H') : LiR Z vs v (upd H' p (.lst ys)) := by
  obtain ⟨a, e, h1, h2⟩ := h
  refine ⟨a, e, ?_, h2⟩
  rw [upd_ne (fun z => hn (by rw [e, z]))]
  exact h1
end
section
variable {Z : Wd} {K : PySem.W.Frag} {σ : L2.St} {H : Hp} {ta tb te tl : TE} {t u : TT} {x y z v : V} {R : Rl} {d : PyData} {D : Ends} {tu tz : TS} {g : TG}
theorem givenD_noL {n : Nat} {f : Nat → Bool} {dd : Nat → PyData} (h : ∀ i, i < n → f i = true → noL (dd i) = true) : noLL (givenD n f dd) = true := noLL_all fun e he => by
  obtain ⟨i, hi, rfl⟩ := List.mem_map.mp he
  obtain ⟨h1, h2⟩ := List.mem_filter.mp hi
  exact h i (List.mem_range.mp h1) h2
theorem cw_turn {f : Nat → Bool} {dd : Nat → PyData} {Dl : Addr} {i n : Nat} {H' : Hp} {σ2 : L2.St} (p : Cw Z H f dd Dl i H') (hi : i < 50000) (hin : i < n) (hL : ∀ j, j < n → f j = true → noL (dd j) = true) (ht : EvT Z t σ2 H' (f i)) (he : ∀ H1, Xt Z H' H1 → f i = true → Ev Z te σ2 H1 (DaR Z (dd i))) :
    t σ2 H' fun b H3 => if b = true then te σ2 H3 fun y H4 => ∃ acc, H4 Dl = some (.lst acc) ∧ acc.length < sizeLine ∧ Cw Z H f dd Dl (i + 1) (upd H4 Dl (.lst (acc ++ [y]))) else Cw Z H f dd Dl (i + 1) H3 := by
  obtain ⟨p1, pS, p2, acc, p3, p4⟩ := p
  refine ht H' (.refl p2.w2) _ fun H3 e3 => ?_
  have a3 : H3 Dl = some (.lst acc) := e3.kp _ _ pS p3
  cases hf : f i with
  | true =>
    show te σ2 H3 fun y H4 => ∃ acc, H4 Dl = some (.lst acc) ∧ acc.length < sizeLine ∧ Cw Z H f dd Dl (i + 1) (upd H4 Dl (.lst (acc ++ [y])))
    refine he H3 e3 hf H3 (.refl e3.w2) _ fun y H4 e4 hy => ⟨acc, e4.kp _ _ pS a3, ?_, p1, pS, Xt.mut ((p2.trans e3).trans e4) p1 pS (e4.kp _ _ pS a3), acc ++ [y], upd_same, ?_⟩
    · have h1 := p4.length
      have h2 := givenD_len i f dd
      rw [sizeLine_eq]
      omega
    · rw [givenD_yes hf]
      have a4 := e4.kp _ _ pS a3
      exact DaL.append (DaL.mut a4 (givenD_noL fun j hj hfj => hL j (by omega) hfj) (p4.mono (e3.trans e4))) (.cons (Da.mut a4 (hL i hin hf) hy) .nil)
  | false =>
    show Cw Z H f dd Dl (i + 1) H3
    refine ⟨p1, pS, p2.trans e3, acc, a3, ?_⟩
    rw [givenD_no hf]
    exact p4.mono e3
/-- [te for j in a tuple if t] -/
theorem en_lcT {j : Nat} {vs : List Nat} {xs : List V} (f : Nat → Bool) (dd : Nat → PyData) (h : Ev Z tl σ H (IsV v)) (hx : TuR Z xs v H) (hz : xs.length ≤ 40000) (hw : ∀ x, wipe ((wipe σ vs).set j (some x)) vs = wipe σ vs) (hL : ∀ i, i < xs.length → f i = true → noL (dd i) = true)
    (ht : ∀ (i : Nat) (x : V) H1, Xt Z H H1 → xs[i]? = some x → EvT Z t ((wipe σ vs).set j (some x)) H1 (f i)) (he : ∀ (i : Nat) (x : V) H1, Xt Z H H1 → xs[i]? = some x → f i = true → Ev Z te ((wipe σ vs).set j (some x)) H1 (DaR Z (dd i))) :
    EvN Z (tLc (iTup K tl) (gName j) t te vs) σ H (fun p H2 => Da Z H2 (.ref p) (.list (givenD xs.length f dd))) := fun H0 e Q q => h H0 e _ fun w H1 e1 hw1 => by
  subst hw1
  obtain ⟨a, rfl, h1, h2⟩ := hx.mono (e.trans e1)
  refine ⟨a, rfl, ⟨xs, .inl h1.h⟩, fun Dl hD => lc_tup (xs := xs) (Cw Z H1 f dd Dl) (cw_zero e1.w2 hD) (fun i H' _ p => .inl (p.2.2.1.rd h2 h1).h) (fun i x H' hi p => ⟨hw x, cw_turn p (by have := (List.getElem?_eq_some_iff.mp hi).1; omega) (List.getElem?_eq_some_iff.mp hi).1 hL (ht i x H' ((e.trans e1).trans p.2.2.1) hi) (fun H2 e2 hf => he i x H2 (((e.trans e1).trans p.2.2.1).trans e2) hi hf)⟩) (fun H' p => ?_)⟩
  obtain ⟨p1, pS, p2, acc, p3, p4⟩ := p
  exact q Dl H' (e1.backF pS p1) pS (e1.trans p2) (.lst p3 pS p4)
/-- .. in a list -/
theorem en_lcL {j : Nat} {vs : List Nat} {xs : List V} {RN : Rl} (f : Nat → Bool) (dd : Nat → PyData) (h : Ev Z tl σ H RN) (hx : ∀ v H1, Xt Z H H1 → RN v H1 → LiR Z xs v H1) (hz : xs.length ≤ 40000) (hw : ∀ x, wipe ((wipe σ vs).set j (some x)) vs = wipe σ vs) (hL : ∀ i, i < xs.length → f i = true → noL (dd i) = true)
    (ht : ∀ (i : Nat) (x : V) H1, Xt Z H H1 → xs[i]? = some x → EvT Z t ((wipe σ vs).set j (some x)) H1 (f i)) (he : ∀ (i : Nat) (x : V) H1, Xt Z H H1 → xs[i]? = some x → f i = true → Ev Z te ((wipe σ vs).set j (some x)) H1 (DaR Z (dd i))) :
    EvN Z (tLc (iList K tl) (gName j) t te vs) σ H (fun p H2 => Da Z H2 (.ref p) (.list (givenD xs.length f dd))) := fun H0 e Q q => h H0 e _ fun w H1 e1 hw1 => by
  obtain ⟨a, rfl, h1, h2⟩ := hx w H1 (e.trans e1) hw1
  refine ⟨a, rfl, ⟨xs, .inl (.inl h1)⟩, fun Dl hD => lc_list (xs := xs) (Cw Z H1 f dd Dl) (cw_zero e1.w2 hD) (fun i H' _ p => .inl (.inl (p.2.2.1.kp _ _ h2 h1))) (fun i x H' hi p => ⟨hw x, cw_turn p (by have := (List.getElem?_eq_some_iff.mp hi).1; omega) (List.getElem?_eq_some_iff.mp hi).1 hL (ht i x H' ((e.trans e1).trans p.2.2.1) hi) (fun H2 e2 hf => he i x H2 (((e.trans e1).trans p.2.2.1).trans e2) hi hf)⟩) (fun H' p => ?_)⟩
  obtain ⟨p1, pS, p2, acc, p3, p4⟩ := p
  exact q Dl H' (e1.backF pS p1) pS (e1.trans p2) (.lst p3 pS p4)
/-- .. in range(n) -/
theorem en_lcR {ta : TA} {j : Nat} {vs : List Nat} {n : Nat} (f : Nat → Bool) (dd : Nat → PyData) (h : EvA Z ta σ H (fun us _ => us = [.int (n : Int)])) (hz : n ≤ 40000) (hw : ∀ x, wipe ((wipe σ vs).set j (some x)) vs = wipe σ vs) (hL : ∀ i, i < n → f i = true → noL (dd i) = true)
    (ht : ∀ (i : Nat) H1, Xt Z H H1 → i < n → EvT Z t ((wipe σ vs).set j (some (.int (i : Int)))) H1 (f i)) (he : ∀ (i : Nat) H1, Xt Z H H1 → i < n → f i = true → Ev Z te ((wipe σ vs).set j (some (.int (i : Int)))) H1 (DaR Z (dd i))) :
    EvN Z (tLc (iRng1 ta) (gName j) t te vs) σ H (fun p H2 => Da Z H2 (.ref p) (.list (givenD n f dd))) := fun H0 e Q q => h H0 e _ fun us H1 e1 hu => by
  refine ⟨n, hu, by omega, by omega, fun Dl hD => ?_⟩
  rw [show ((n : Int)).toNat = n by omega]
  refine lc_range (lo := 0) (n := n) (Cw Z H1 f dd Dl) (cw_zero e1.w2 hD) (fun i H' hi p => ?_) (fun H' p => ?_)
  · have e0 : (0 : Int) + (i : Int) = (i : Int) := Int.zero_add _
    show wipe ((wipe σ vs).set j (some (.int ((0 : Int) + (i : Int))))) vs = wipe σ vs ∧ t ((wipe σ vs).set j (some (.int ((0 : Int) + (i : Int))))) H' fun b H3 => if b = true then te ((wipe σ vs).set j (some (.int ((0 : Int) + (i : Int))))) H3 fun y H4 => ∃ acc, H4 Dl = some (.lst acc) ∧ acc.length < sizeLine ∧ Cw Z H1 f dd Dl (i + 1) (upd H4 Dl (.lst (acc ++ [y]))) else Cw Z H1 f dd Dl (i + 1) H3
    rw [e0]
    exact ⟨hw _, cw_turn p (by omega) hi hL (ht i H' ((e.trans e1).trans p.2.2.1) hi) (fun H2 e2 hf => he i H2 (((e.trans e1).trans p.2.2.1).trans e2) hi hf)⟩
  · obtain ⟨p1, pS, p2, acc, p3, p4⟩ := p
    exact q Dl H' (e1.backF pS p1) pS (e1.trans p2) (.lst p3 pS p4)
/-- .. in range(lo, hi) -/
theorem en_lcR2 {ta : TA} {j : Nat} {vs : List Nat} {lo hi : Int} {n : Nat} (f : Nat → Bool) (dd : Nat → PyData) (h : EvA Z ta σ H (fun us _ => us = [.int lo, .int hi])) (hn : (hi - lo).toNat = n) (hlo : -1000 ≤ lo ∧ lo ≤ 1000 ∧ -1000 ≤ hi ∧ hi ≤ 1000) (hw : ∀ x, wipe ((wipe σ vs).set j (some x)) vs = wipe σ vs) (hL : ∀ i, i < n → f i = true → noL (dd i) = true)
    (ht : ∀ (i : Nat) H1, Xt Z H H1 → i < n → EvT Z t ((wipe σ vs).set j (some (.int (lo + (i : Int))))) H1 (f i)) (he : ∀ (i : Nat) H1, Xt Z H H1 → i < n → f i = true → Ev Z te ((wipe σ vs).set j (some (.int (lo + (i : Int))))) H1 (DaR Z (dd i))) :
    EvN Z (tLc (iRng2 ta) (gName j) t te vs) σ H (fun p H2 => Da Z H2 (.ref p) (.list (givenD n f dd))) := fun H0 e Q q => h H0 e _ fun us H1 e1 hu => by
  refine ⟨lo, hi, hu, ⟨by omega, by omega, by omega, by omega⟩, fun Dl hD => ?_⟩
  rw [hn]
  refine lc_range (lo := lo) (n := n) (Cw Z H1 f dd Dl) (cw_zero e1.w2 hD) (fun i H' hi' p => ?_) (fun H' p => ?_)
  · exact ⟨hw _, cw_turn p (by omega) hi' hL (ht i H' ((e.trans e1).trans p.2.2.1) hi') (fun H2 e2 hf => he i H2 (((e.trans e1).trans p.2.2.1).trans e2) hi' hf)⟩
  · obtain ⟨p1, pS, p2, acc, p3, p4⟩ := p
    exact q Dl H' (e1.backF pS p1) pS (e1.trans p2) (.lst p3 pS p4)
theorem et_yes : EvT Z tYes σ H true := fun H1 e Q q => q H1 (.refl e.w2)
theorem EvN.da {ds : List PyData} (h : EvN Z te σ H (fun p H2 => Da Z H2 (.ref p) (.list ds))) : Ev Z te σ H (DaR Z (.list ds)) := h.ev fun p H1 _ _ r => r

/-! ### list, tuple, sorted, max, min of lists -/
/-- tuple(xs) of a list: a new tuple of the same items -/
abbrev rTupleOf (K : PySem.W.Frag) : List V → Hp → VK → Prop := fun xs H Q => ∃ p ys, xs = [.ref p] ∧ ((SqL K H p ys ∧ ∀ l, H l = none → Q (.ref l) (upd H l (.tup ys))) ∨ (SqT K H p ys ∧ Q (.ref p) H))
theorem ev_tupOfL {xs : List V} {RN : Rl} (h : Ev Z te σ H RN) (hx : ∀ v H1, Xt Z H H1 → RN v H1 → LiR Z xs v H1) : Ev Z (tCB (rTupleOf K) (tCons te tNil)) σ H (TuR Z xs) := fun H1 e Q q =>
  h H1 e _ fun w H2 e2 hw => by
    obtain ⟨a, rfl, k1, k2⟩ := hx w H2 (e.trans e2) hw
    exact ⟨a, xs, rfl, .inl ⟨.inl (.inl k1), fun l hl => q _ _ (e2.trans (.new e2.w2 hl)) ⟨l, rfl, ⟨.inl upd_same⟩, nS e2.w2 hl⟩⟩⟩
theorem ev_tupOfD {ds : List PyData} (h : Ev Z te σ H (DaR Z (.list ds))) : Ev Z (tCB (rTupleOf K) (tCons te tNil)) σ H (DaR Z (.tuple ds)) := fun H1 e Q q =>
  h H1 e _ fun w H2 e2 hw => by
    cases hw with
    | lst k1 k2 k3 => exact ⟨_, _, rfl, .inl ⟨.inl (.inl k1), fun l hl => q _ _ (e2.trans (.new e2.w2 hl)) (.tup ⟨.inl upd_same⟩ (nS e2.w2 hl) (k3.mono (.new e2.w2 hl)))⟩⟩
abbrev rListOf (K : PySem.W.Frag) : List V → Hp → VK → Prop := fun xs H Q => ∃ p ys, xs = [.ref p] ∧ (SqL K H p ys ∨ SqT K H p ys) ∧ ∀ l, H l = none → Q (.ref l) (upd H l (.lst ys))
theorem ev_listOfD {ds : List PyData} (h : Ev Z te σ H (DaR Z (.tuple ds))) : Ev Z (tCB (rListOf K) (tCons te tNil)) σ H (DaR Z (.list ds)) := fun H1 e Q q =>
  h H1 e _ fun w H2 e2 hw => by
    cases hw with
    | tup k1 k2 k3 => exact ⟨_, _, rfl, .inr (.inl k1.h), fun l hl => q _ _ (e2.trans (.new e2.w2 hl)) (.lst upd_same (nS e2.w2 hl) (k3.mono (.new e2.w2 hl)))⟩
/-- max, min of a list of ints -/
theorem ev_max {ns : List Int} (h : Ev Z te σ H (DaR Z (.list (ns.map .int)))) (hn : 0 < ns.length) (hR : ∀ m H1, m ∈ ns → (∀ y, y ∈ ns → y ≤ m) → R (.int m) H1) : Ev Z (tCB (rMax K) (tCons te tNil)) σ H R := fun H1 e Q q =>
  h H1 e _ fun w H2 e2 hw => by
    cases hw with
    | lst k1 k2 k3 =>
      rw [ints_daL k3] at k1
      exact ⟨_, ns, rfl, .inl (.inl k1), hn, fun m h1 h2 => q _ _ e2 (hR m H2 h1 h2)⟩
theorem ev_min {ns : List Int} (h : Ev Z te σ H (DaR Z (.list (ns.map .int)))) (hn : 0 < ns.length) (hR : ∀ m H1, m ∈ ns → (∀ y, y ∈ ns → m ≤ y) → R (.int m) H1) : Ev Z (tCB (rMin K) (tCons te tNil)) σ H R := fun H1 e Q q =>
  h H1 e _ fun w H2 e2 hw => by
    cases hw with
    | lst k1 k2 k3 =>
      rw [ints_daL k3] at k1
      exact ⟨_, ns, rfl, .inl (.inl k1), hn, fun m h1 h2 => q _ _ e2 (hR m H2 h1 h2)⟩
/-- sorted of a tuple of ints -/
theorem ev_sortedT {ns : List Int} (h : Ev Z te σ H (DaR Z (.tuple (ns.map .int)))) (hn : ns.length < 64) (hR : ∀ ns' : List Int, ns'.Perm ns → ns'.Pairwise (· ≤ ·) → ∀ v H1, Da Z H1 v (.list (ns'.map .int)) → R v H1) : Ev Z (tCB (rSortedTI K) (tCons te tNil)) σ H R := fun H1 e Q q =>
  h H1 e _ fun w H2 e2 hw => by
    cases hw with
    | tup k1 k2 k3 =>
      rw [ints_daL k3] at k1
      exact ⟨_, ns, rfl, .inl k1.h, hn, fun ns' p h1 h2 hp => q _ _ (e2.trans (.new e2.w2 hp)) (hR ns' h1 h2 _ _ (.lst upd_same (nS e2.w2 hp) (daL_ints ns')))⟩
/-- xs + ys, lists: a new one -/
theorem ev_cat {ds es : List PyData} (ha : Ev Z ta σ H (DaR Z (.list ds))) (hb : Ev Z tb σ H (DaR Z (.list es))) (hl : ds.length + es.length ≤ 10000) : Ev Z (tOp rCat ta tb) σ H (DaR Z (.list (ds ++ es))) :=
  ev_opX (Rb := fun _ => DaR Z (.list es)) ha (fun _ _ e1 _ => hb.mono e1) fun x y H1 H2 e1 e2 hx hy Q q => by
    have hx2 := Da.mono e2 hx
    cases hx2 with
    | lst a1 a2 a3 =>
      cases hy with
      | lst b1 b2 b3 =>
        have n1 := a3.length
        have n2 := b3.length
        exact ⟨_, _, _, _, rfl, rfl, a1, b1, by rw [sizeLine_eq]; omega, fun p hp => q _ _ (.new e2.w2 hp) (.lst upd_same (nS e2.w2 hp) ((a3.append b3).mono (.new e2.w2 hp)))⟩
/-- t + u, tuples -/
theorem ev_catT {ds es : List PyData} (ha : Ev Z ta σ H (DaR Z (.tuple ds))) (hb : Ev Z tb σ H (DaR Z (.tuple es))) (hl : ds.length + es.length ≤ 10000) : Ev Z (tOp (rCatA K) ta tb) σ H (DaR Z (.tuple (ds ++ es))) :=
  ev_opX (Rb := fun _ => DaR Z (.tuple es)) ha (fun _ _ e1 _ => hb.mono e1) fun x y H1 H2 e1 e2 hx hy Q q => by
    have hx2 := Da.mono e2 hx
    cases hx2 with
    | tup a1 a2 a3 =>
      cases hy with
      | tup b1 b2 b3 =>
        have n1 := a3.length
        have n2 := b3.length
        refine ⟨_, _, _, _, rfl, rfl, .inl a1.h, .inl b1.h, by rw [sizeLine_eq]; omega, fun hx0 => ?_, fun _ hy0 => ?_, fun _ _ p hp => q _ _ (.new e2.w2 hp) (.tup ⟨.inl upd_same⟩ (nS e2.w2 hp) ((a3.append b3).mono (.new e2.w2 hp)))⟩
        · subst hx0
          have : ds = [] := List.eq_nil_of_length_eq_zero (by simpa using n1.symm)
          subst this
          exact q _ _ (.refl e2.w2) (.tup b1 b2 b3)
        · subst hy0
          have : es = [] := List.eq_nil_of_length_eq_zero (by simpa using n2.symm)
          subst this
          rw [List.append_nil] at q
          exact q _ _ (.refl e2.w2) (.tup a1 a2 a3)

/-! ### targets, stores -/
theorem g_tup2 {i j : Nat} {a b : V} {Q : L2.St → Hp → Prop} (h : TuR Z [a, b] v H) (q : Q ((σ.set i (some a)).set j (some b)) H) : gTup K 2 (gCons (gName i) (gCons (gName j) gNil)) v σ H Q := by
  obtain ⟨p, rfl, h1, h2⟩ := h
  exact ⟨p, [a, b], rfl, .inl h1.h, rfl, a, [b], rfl, b, [], rfl, rfl, q⟩
theorem g_tup3 {i j l : Nat} {a b c : V} {Q : L2.St → Hp → Prop} (h : TuR Z [a, b, c] v H) (q : Q (((σ.set i (some a)).set j (some b)).set l (some c)) H) : gTup K 3 (gCons (gName i) (gCons (gName j) (gCons (gName l) gNil))) v σ H Q := by
  obtain ⟨p, rfl, h1, h2⟩ := h
  exact ⟨p, [a, b, c], rfl, .inl h1.h, rfl, a, [b, c], rfl, b, [c], rfl, c, [], rfl, rfl, q⟩
theorem g_lst2 {i j : Nat} {a b : V} {Q : L2.St → Hp → Prop} (h : LiR Z [a, b] v H) (q : Q ((σ.set i (some a)).set j (some b)) H) : gUnl K 2 (gCons (gName i) (gCons (gName j) gNil)) v σ H Q := by
  obtain ⟨p, rfl, h1, h2⟩ := h
  exact ⟨p, [a, b], rfl, .inl (.inl h1), rfl, a, [b], rfl, b, [], rfl, rfl, q⟩
theorem g_lst3 {i j l : Nat} {a b c : V} {Q : L2.St → Hp → Prop} (h : LiR Z [a, b, c] v H) (q : Q (((σ.set i (some a)).set j (some b)).set l (some c)) H) : gUnl K 3 (gCons (gName i) (gCons (gName j) (gCons (gName l) gNil))) v σ H Q := by
  obtain ⟨p, rfl, h1, h2⟩ := h
  exact ⟨p, [a, b, c], rfl, .inl (.inl h1), rfl, a, [b, c], rfl, b, [c], rfl, c, [], rfl, rfl, q⟩
/-- target = e, any target -/
theorem s_asgG {g : TG} (w : Z.W H) (h : Ev Z te σ H R) (k : ∀ v H1, Xt Z H H1 → R v H1 → g v σ H1 D.nx) : tAsg te g D σ H := h H (.refl w) _ fun v H1 e r => k v H1 e r
theorem q_asgG {g : TG} (w : Z.W H) (h : Ev Z te σ H R) (k : ∀ v H1, Xt Z H H1 → R v H1 → g v σ H1 fun σ2 H2 => tz D σ2 H2) : tSeq (tAsg te g) tz D σ H := h H (.refl w) _ fun v H1 e r => k v H1 e r
/-- xs[i] = e -/
theorem s_setL {l : Addr} {xs : List V} {j : Nat} {i : Int} (w : Z.W H) (hl : H l = some (.lst xs)) (nl : ¬ Z.S l) (h : Ev Z te σ H R) (ho : Ev Z ta σ H (IsV (.ref l))) (hi : Ev Z tb σ H (IsV (.int i))) (hj : ixN xs.length i = some j) (k : ∀ v H1 H3, Xt Z H H1 → Xt Z H1 H3 → R v H1 → H3 l = some (.lst xs) → D.nx σ (upd H3 l (.lst (xs.set j v)))) :
    tAsg te (gSub ta tb rSetL) D σ H := h H (.refl w) _ fun v H1 e1 hv => ho H1 e1 _ fun o H2 e2 ho2 => hi H2 (e1.trans e2) _ fun y H3 e3 hy => by
  subst ho2
  subst hy
  have e13 := (e1.trans e2).trans e3
  exact ⟨l, xs, i, j, rfl, rfl, e13.kp _ _ nl hl, hj, k v H1 H3 e1 (e2.trans e3) hv (e13.kp _ _ nl hl)⟩
/-- xs.pop() as a statement -/
theorem s_pop {l : Addr} {xs : List V} {y : V} (w : Z.W H) (hl : H l = some (.lst xs)) (nl : ¬ Z.S l) (ha : Ev Z ta σ H (IsV (.ref l))) (hy : xs[xs.length - 1]? = some y) (k : ∀ H1, Xt Z H H1 → H1 l = some (.lst xs) → D.nx σ (upd H1 l (.lst xs.dropLast))) :
    tDrop (tBM0 K "list" rPop ta) D σ H := ha H (.refl w) _ fun x H1 e1 hx => by
  subst hx
  have h1 := e1.kp _ _ nl hl
  exact ⟨.inl ⟨rfl, xs, .inl (.inl h1)⟩, l, xs, y, rfl, rfl, h1, hy, k H1 e1 h1⟩
end
end Hk
/-! ## F3 -/
namespace Hk
open PySem PySem.Spec PyProof.Rows L2
local macro_rules | `(tactic| walk_at "bd") => `(tactic| first
  | assumption
  | exact (show B 64 _ from by unfold B; decide)
  | (refine' B.mul ?b1 ?b2; (case b1 => walk_at "bd"); (case b2 => walk_at "bd"))
  | (refine' B.sub ?b1 ?b2; (case b1 => walk_at "bd"); (case b2 => walk_at "bd"))
  | (refine' B.add ?b1 ?b2; (case b1 => walk_at "bd"); (case b2 => walk_at "bd"))
  | (refine' B.neg ?b1; (case b1 => walk_at "bd")))
local macro_rules | `(tactic| walk_at "da") => `(tactic| first
  | assumption
  | exact Da.int _
  | exact Da.non
  | exact Da.bl _
  | exact Da.str _
  | ((with_reducible refine' P3.mono (by assumption) ?d1); (case d1 => walk_at "da"))
  | ((with_reducible refine' Ra.mono (by assumption) ?d1); (case d1 => walk_at "da"))
  | ((with_reducible refine' TuR.mono (by assumption) ?d1); (case d1 => walk_at "da"))
  | ((with_reducible refine' LiR.mono (by assumption) ?d1); (case d1 => walk_at "da"))
  | ((with_reducible refine' Da.mono (by assumption) ?d1); (case d1 => walk_at "da")))
local macro_rules | `(tactic| walk_at "xt") => `(tactic| first
  | assumption
  | (refine' Xt.trans ?x1 (by assumption); (case x1 => walk_at "xt")))
local macro_rules | `(tactic| walk_at "w") => `(tactic| first
  | assumption
  | exact Xt.w2 (by assumption)
  | exact Xt.w1 (by assumption))
local macro_rules | `(tactic| walk_at "side") => `(tactic| first
  | assumption
  | (refine' B.cmul ?b1 ?b2 ?b3; (case b1 => walk_at "bd"); (case b2 => walk_at "bd"); (case b3 => first | decide | omega))
  | (refine' B.cdiv ?b1 ?b2 ?b3; (case b1 => assumption); (case b2 => walk_at "bd"); (case b3 => first | decide | omega)))
local macro_rules | `(tactic| walk_at "ea") => `(tactic| first
  | with_reducible exact ea_nil
  | ((with_reducible refine' ea_cons ?p1 ?p2); (case p1 => walk_at "ev"); (case p2 => walk_at "ea")))
local macro_rules | `(tactic| walk_at "et") => `(tactic| first
  | ((with_reducible refine' et_and ?p1 ?p2); (case p1 => walk_at "et"); (case p2 => intro _; walk_at "et"))
  | ((with_reducible refine' et_or ?p1 ?p2); (case p1 => walk_at "et"); (case p2 => intro _; walk_at "et"))
  | ((with_reducible refine' et_not ?p1); (case p1 => walk_at "et"))
  | ((with_reducible refine' et_test ?p1); (case p1 => walk_at "ev"))
  | ((with_reducible refine' et_B ?p1); (case p1 => walk_at "ev")))
local macro_rules | `(tactic| walk_at "ev") => `(tactic| first
  | with_reducible exact ev_c
  | ((with_reducible refine' ev_var ?v1); (case v1 => exact rfl))
  | ((with_reducible refine' ev_px ?p1 ?p2 ?p3); (case p1 => walk_at "ev"); (case p2 => walk_at "da"); (case p3 => with_reducible exact ev_c))
  | ((with_reducible refine' ev_py ?p1 ?p2 ?p3); (case p1 => walk_at "ev"); (case p2 => walk_at "da"); (case p3 => with_reducible exact ev_c))
  | ((with_reducible refine' ev_pw ?p1 ?p2 ?p3); (case p1 => walk_at "ev"); (case p2 => walk_at "da"); (case p3 => with_reducible exact ev_c))
  | ((with_reducible refine' ev_ixT ?p1 ?p2 ?p3 ?p4); (case p1 => walk_at "ev"); (case p2 => walk_at "da"); (case p3 => walk_at "ev"); (case p4 => first | exact rfl | assumption))
  | ((with_reducible refine' ev_ixL ?p1 ?p2 ?p3 ?p4); (case p1 => walk_at "ev"); (case p2 => walk_at "da"); (case p3 => walk_at "ev"); (case p4 => first | exact rfl | assumption))
  | ((with_reducible refine' ev_i0 ?p1 ?p2); (case p1 => walk_at "ev"); (case p2 => walk_at "ev"))
  | ((with_reducible refine' ev_iC ?p1 ?p2 ?p3); (case p1 => walk_at "ev"); (case p2 => walk_at "ev"); (case p3 => walk_at "side"))
  | ((with_reducible refine' ev_neg ?p1); (case p1 => walk_at "ev"))
  | ((with_reducible refine' ev_eq ?p1 ?p2 ?p3); (case p1 => walk_at "ev"); (case p2 => walk_at "ev"); (case p3 => exact rfl))
  | ((with_reducible refine' ev_ne ?p1 ?p2 ?p3); (case p1 => walk_at "ev"); (case p2 => walk_at "ev"); (case p3 => exact rfl))
  | ((with_reducible refine' ev_andV ?p1 ?p2); (case p1 => walk_at "ev"); (case p2 => intro _; walk_at "ev"))
  | ((with_reducible refine' ev_orV ?p1 ?p2); (case p1 => walk_at "ev"); (case p2 => intro _; walk_at "ev"))
  | ((with_reducible refine' ev_notV ?p1); (case p1 => walk_at "ev"))
  | ((with_reducible refine' ev_subB ?p1 ?p2); (case p1 => walk_at "ev"); (case p2 => walk_at "ev"))
  | ((with_reducible refine' ev_chI ?p1 ?p2 ?p3); (case p1 => walk_at "ev"); (case p2 => walk_at "ev"); (case p3 => walk_at "ev"))
  | ((with_reducible refine' ev_isInt ?p1 ?p2); (case p1 => walk_at "ev"); (case p2 => walk_at "da"))
  | ((with_reducible refine' ev_isBool ?p1 ?p2); (case p1 => walk_at "ev"); (case p2 => walk_at "da"))
  | ((with_reducible refine' ev_isStr ?p1 ?p2); (case p1 => walk_at "ev"); (case p2 => walk_at "da"))
  | ((with_reducible refine' ev_isTup ?p1 ?p2); (case p1 => walk_at "ev"); (case p2 => walk_at "da"))
  | ((with_reducible refine' ev_isLst ?p1 ?p2); (case p1 => walk_at "ev"); (case p2 => walk_at "da"))
  | ((with_reducible refine' ev_isTL ?p1 ?p2); (case p1 => walk_at "ev"); (case p2 => walk_at "da"))
  | ((with_reducible refine' ev_lenT ?p1 ?p2); (case p1 => walk_at "ev"); (case p2 => walk_at "da"))
  | ((with_reducible refine' ev_lenL ?p1 ?p2); (case p1 => walk_at "ev"); (case p2 => walk_at "da"))
  | ((with_reducible refine' ev_abs ?p1); (case p1 => walk_at "ev"))
  | ((with_reducible refine' ev_min2 ?p1 ?p2); (case p1 => walk_at "ev"); (case p2 => walk_at "ev"))
  | ((with_reducible refine' ev_int1 ?p1); (case p1 => walk_at "ev"))
  | ((with_reducible refine' ev_isN ?p1); (case p1 => walk_at "ev"))
  | ((with_reducible refine' ev_notN ?p1); (case p1 => walk_at "ev"))
  | ((with_reducible refine' ev_sign ?p1); (case p1 => walk_at "ev"))
  | ((with_reducible refine' ev_gcd ?p1 ?p2); (case p1 => walk_at "ev"); (case p2 => walk_at "ev"))
  | ((with_reducible refine' ev_is_in ?p1 ?p2 ?p3 ?p4); (case p1 => walk_at "ev"); (case p2 => walk_at "da"); (case p3 => walk_at "ev"); (case p4 => walk_at "ev"))
  | ((with_reducible refine' ev_doubled ?p1 ?p2 ?p3 ?p4 ?p5 ?p6 ?p7 ?p8 ?p9); (case p1 => walk_at "ev"); (case p2 => walk_at "ev"); (case p3 => walk_at "ev"); (case p4 => walk_at "da"); (case p5 => walk_at "da"); (case p6 => walk_at "da"); (case p7 => assumption); (case p8 => assumption); (case p9 => assumption))
  | ((with_reducible refine' ev_order_of ?p1 ?p2 ?p3 ?p4 ?p5 ?p6); (case p1 => walk_at "ev"); (case p2 => walk_at "ev"); (case p3 => walk_at "da"); (case p4 => walk_at "da"); (case p5 => assumption); (case p6 => assumption))
  | ((with_reducible refine' ev_turn_of ?p1 ?p2 ?p3 ?p4 ?p5 ?p6 ?p7 ?p8 ?p9); (case p1 => walk_at "ev"); (case p2 => walk_at "ev"); (case p3 => walk_at "ev"); (case p4 => walk_at "da"); (case p5 => walk_at "da"); (case p6 => walk_at "da"); (case p7 => assumption); (case p8 => assumption); (case p9 => assumption))
  | ((with_reducible refine' ev_is_between ?p1 ?p2 ?p3 ?p4 ?p5 ?p6 ?p7 ?p8 ?p9); (case p1 => walk_at "ev"); (case p2 => walk_at "ev"); (case p3 => walk_at "ev"); (case p4 => walk_at "da"); (case p5 => walk_at "da"); (case p6 => walk_at "da"); (case p7 => assumption); (case p8 => assumption); (case p9 => assumption)))
section
variable {P : Program} {w : World} {K : PySem.W.Frag} {mg : Str → Option Value} {base : Heap}
/-! reduced -/
theorem B.num {n : Nat} {a d : Int} (h : B n a) (hd : d ≠ 0) : B n (Rat.divInt a d).num := h.ofLe (num_abs a hd)
theorem B.den {n : Nat} (a : Int) {d : Int} (h : B n d) (hd : d ≠ 0) : B n ((Rat.divInt a d).den : Int) := h.ofLe (by have := den_abs a hd; omega)
theorem B.gcdr {n : Nat} (a : Int) {d : Int} (h : B n d) (hd : d ≠ 0) : B n (gcdI a d) := h.ofLe (by
  have h1 : (gcdI a d).natAbs ∣ d.natAbs := Int.natAbs_dvd_natAbs.mpr (gcd_dr a d)
  exact Nat.le_of_dvd (by omega) h1)
def G_reduced : Gv := fun Z vs H R => ∃ n d, vs = [.int n, .int d] ∧ d ≠ 0 ∧ B 8900 d ∧ R = Ra Z (Rat.divInt n d)
theorem ok_reduced (T : Tx K mg) : FnOk P w K mg base CX0 2 T.f_reduced T.d_reduced ["numerator", "denominator"] (spOf G_reduced) := by
  refine T.F_reduced.ok sc_reduced (fun vs H Q E h => ?_) (fun cdv A outer s H vs Q E hr h => ?_)
  · obtain ⟨Z, R, _, ⟨n, d, rfl, _⟩, _⟩ := h
    rfl
  obtain ⟨Z, R, hw, ⟨n, d, rfl, hd, hb, rfl⟩, hq⟩ := h
  refine ⟨_, (pss_cons (ps_set (i := 2) sc_reduced.nd rfl (Or.inl rfl) (pe_call (ok_gcd T) (hr.mono (by decide)) (by rfl) T.g_gcd T.F_gcd.kp T.b_gcd .nil pass0 (pa_cons (pv 0) (pa_cons (pv 1) pa_nil))))
  (pss_cons (ps_if (pt_cmpR op_lt (pv 1) pe_int (nomark _))
  (pss_one (ps_set (i := 2) sc_reduced.nd rfl (Or.inl rfl) (pe_un un_neg (pv 2))))
  pss_nil)
  (pss_one (ps_ret (pe_tup (pa_cons (pe_op op_fdivA (pv 0) (pv 2)) (pa_cons (pe_op op_fdivA (pv 1) (pv 2)) pa_nil))))))), ?_⟩
  rw [show L2.start nm_reduced [(.int n), (.int d)] = [some (.int n), some (.int d), none] from rfl]
  refine q_asg (Z := Z) (by walk_at "w") (by walk_at "ev") fun v1 H1 e1 r1 => ?_
  subst r1
  have hg := hb.gcdr n hd
  have fin : ∀ H5, Xt Z H H5 → (tRet (tTup (tCons (tOp (rI CDivA fun i j => .int (i.fdiv j)) (tVar 0) (tVar 2)) (tCons (tOp (rI CDivA fun i j => .int (i.fdiv j)) (tVar 1) (tVar 2)) tNil)))) { nx := fun _ H' => Q .non H', rt := Q, bk := fun _ _ => False, ct := fun _ _ => False } [some (.int n), some (.int d), some (.int (redc n d))] H5 := fun H5 e5 => by
    have hc := redc_ne (n := n) hd
    have hcb : B 8900 (redc n d) := by
      unfold redc
      split
      · exact hg.neg
      · exact hg
    refine s_ret (Z := Z) (by walk_at "w") (ev_tup (by walk_at "ea") (by simp)) fun v2 H6 e6 r2 => ?_
    rw [redc_num hd, redc_den hd] at r2
    exact hq _ _ (by walk_at "xt") r2
  refine q_when (Z := Z) (by walk_at "w") (by walk_at "et") (fun hb2 H2 e2 => ?_) (fun hb2 H2 e2 => ?_)
  · refine s_asg (Z := Z) (by walk_at "w") (by walk_at "ev") fun v3 H3 e3 r3 => ?_
    subst r3
    have h := fin H3 (by walk_at "xt")
    unfold redc at h
    rw [if_pos (by simpa using hb2)] at h
    exact h
  · have h := fin H2 (by walk_at "xt")
    unfold redc at h
    rw [if_neg (by simpa using hb2)] at h
    exact h
section
variable {Z : Wd} {σ : L2.St} {H : Hp} {ta tb tc : TE} {E : XK}
theorem ev_reduced {n d : Int} (h1 : Ev Z ta σ H (IsV (.int n))) (h2 : Ev Z tb σ H (IsV (.int d))) (hd : d ≠ 0) (hb : B 8900 d) : Ev Z (tCall (spOf G_reduced) [] E (tCons ta (tCons tb tNil))) σ H (Ra Z (Rat.divInt n d)) :=
  ev_call (ea_cons h1 (ea_cons h2 ea_nil)) fun H1 e => ⟨n, d, rfl, hd, hb, rfl⟩
end
/-- a ratio of some size -/
structure RB (n : Nat) (q : Rat) : Prop where
  a : B n q.num
  b : B n (q.den : Int)
theorem RB.mono {m n : Nat} {q : Rat} (h : RB m q) (hmn : m ≤ n) : RB n q := ⟨h.a.mono hmn, h.b.mono hmn⟩
theorem RB.mk2 {m : Nat} {n d : Int} (hd : d ≠ 0) (hn : B m n) (hb : B m d) : RB m (Rat.divInt n d) := ⟨hn.num hd, hb.den n hd⟩
theorem RB.add {a b : Nat} {p q : Rat} (hp : RB a p) (hq : RB b q) : RB (a + b + 1) (p + q) := by
  rw [← add_eq]
  have h0 : (p.den : Int) * (q.den : Int) ≠ 0 := Int.mul_ne_zero (den_ne p) (den_ne q)
  refine RB.mk2 h0 ?_ ((hp.b.mul hq.b).mono (by omega))
  exact ((hp.a.mul hq.b).add (hq.a.mul hp.b)).mono (by rw [Nat.add_comm b a, Nat.max_self]; omega)
theorem RB.mul {a b : Nat} {p q : Rat} (hp : RB a p) (hq : RB b q) : RB (a + b) (p * q) := by
  rw [← mul_eq]
  have h0 : (p.den : Int) * (q.den : Int) ≠ 0 := Int.mul_ne_zero (den_ne p) (den_ne q)
  exact RB.mk2 h0 (hp.a.mul hq.a) (hp.b.mul hq.b)
/-! plus, times -/
def G_plus : Gv := fun Z vs H R => ∃ v1 v2 p q, vs = [v1, v2] ∧ Ra Z p v1 H ∧ Ra Z q v2 H ∧ RB 4400 p ∧ RB 4400 q ∧ R = Ra Z (p + q)
theorem ok_plus (T : Tx K mg) : FnOk P w K mg base CX0 3 T.f_plus T.d_plus ["one", "other"] (spOf G_plus) := by
  refine T.F_plus.ok sc_plus (fun vs H Q E h => ?_) (fun cdv A outer s H vs Q E hr h => ?_)
  · obtain ⟨Z, R, _, ⟨v1, v2, p, q, rfl, _⟩, _⟩ := h
    rfl
  obtain ⟨Z, R, hw, ⟨v1, v2, p, q, rfl, h1, h2, ⟨b1, b2⟩, ⟨b3, b4⟩, rfl⟩, hq⟩ := h
  refine ⟨_, (pss_one (ps_ret (pe_call (ok_reduced T) (hr.mono (by decide)) (by rfl) T.g_reduced T.F_reduced.kp T.b_reduced .nil pass0 (pa_cons (pe_op op_add (pe_op op_mulW (pe_ix ix_tup (pv 0) pe_int (fun _ _ => rfl)) (pe_ix ix_tup (pv 1) pe_int (fun _ _ => rfl))) (pe_op op_mulW (pe_ix ix_tup (pv 1) pe_int (fun _ _ => rfl)) (pe_ix ix_tup (pv 0) pe_int (fun _ _ => rfl)))) (pa_cons (pe_op op_mulW (pe_ix ix_tup (pv 0) pe_int (fun _ _ => rfl)) (pe_ix ix_tup (pv 1) pe_int (fun _ _ => rfl))) pa_nil))))), ?_⟩
  have h0 : (p.den : Int) * (q.den : Int) ≠ 0 := Int.mul_ne_zero (den_ne p) (den_ne q)
  refine s_ret (Z := Z) (by walk_at "w") (ev_reduced (by walk_at "ev") (by walk_at "ev") h0 ((b2.mul b4).mono (by decide))) fun v2 H6 e6 r2 => ?_
  rw [add_eq] at r2
  exact hq _ _ (by walk_at "xt") r2
def G_times : Gv := fun Z vs H R => ∃ v1 v2 p q, vs = [v1, v2] ∧ Ra Z p v1 H ∧ Ra Z q v2 H ∧ RB 4400 p ∧ RB 4400 q ∧ R = Ra Z (p * q)
theorem ok_times (T : Tx K mg) : FnOk P w K mg base CX0 3 T.f_times T.d_times ["one", "other"] (spOf G_times) := by
  refine T.F_times.ok sc_times (fun vs H Q E h => ?_) (fun cdv A outer s H vs Q E hr h => ?_)
  · obtain ⟨Z, R, _, ⟨v1, v2, p, q, rfl, _⟩, _⟩ := h
    rfl
  obtain ⟨Z, R, hw, ⟨v1, v2, p, q, rfl, h1, h2, ⟨b1, b2⟩, ⟨b3, b4⟩, rfl⟩, hq⟩ := h
  refine ⟨_, (pss_one (ps_ret (pe_call (ok_reduced T) (hr.mono (by decide)) (by rfl) T.g_reduced T.F_reduced.kp T.b_reduced .nil pass0 (pa_cons (pe_op op_mulW (pe_ix ix_tup (pv 0) pe_int (fun _ _ => rfl)) (pe_ix ix_tup (pv 1) pe_int (fun _ _ => rfl))) (pa_cons (pe_op op_mulW (pe_ix ix_tup (pv 0) pe_int (fun _ _ => rfl)) (pe_ix ix_tup (pv 1) pe_int (fun _ _ => rfl))) pa_nil))))), ?_⟩
  have h0 : (p.den : Int) * (q.den : Int) ≠ 0 := Int.mul_ne_zero (den_ne p) (den_ne q)
  refine s_ret (Z := Z) (by walk_at "w") (ev_reduced (by walk_at "ev") (by walk_at "ev") h0 ((b2.mul b4).mono (by decide))) fun v2 H6 e6 r2 => ?_
  rw [mul_eq] at r2
  exact hq _ _ (by walk_at "xt") r2
/-! order_of -/
def G_order_of : Gv := fun Z vs H R => ∃ va vb a b, vs = [va, vb] ∧ P3 Z va a H ∧ P3 Z vb b H ∧ Nm a ∧ Nm b ∧ R = IsV (.int (ordP a b))
theorem ok_order_of (T : Tx K mg) : FnOk P w K mg base CX0 2 T.f_order_of T.d_order_of ["a", "b"] (spOf G_order_of) := by
  refine T.F_order_of.ok sc_order_of (fun vs H Q E h => ?_) (fun cdv A outer s H vs Q E hr h => ?_)
  · obtain ⟨Z, R, _, ⟨va, vb, a, b, rfl, _⟩, _⟩ := h
    rfl
  obtain ⟨Z, R, hw, ⟨va, vb, a, b, rfl, pa, pb, ⟨a1, a2, a3, _⟩, ⟨b1, b2, b3, _⟩, rfl⟩, hq⟩ := h
  refine ⟨_, (pss_cons (ps_set (i := 2) sc_order_of.nd rfl (Or.inl rfl) (pe_call (ok_sign T) (hr.mono (by decide)) (by rfl) T.g_sign T.F_sign.kp T.b_sign .nil pass0 (pa_cons (pe_op op_sub (pe_op op_mulW (pe_ix ix_tup (pv 0) pe_int (fun _ _ => rfl)) (pe_ix ix_tup (pv 1) pe_int (fun _ _ => rfl))) (pe_op op_mulW (pe_ix ix_tup (pv 1) pe_int (fun _ _ => rfl)) (pe_ix ix_tup (pv 0) pe_int (fun _ _ => rfl)))) pa_nil)))
  (pss_one (ps_ret (pe_ifExp (pt_cmpR op_ne (pv 2) pe_int (nomark _)) (pv 2) (pe_call (ok_sign T) (hr.mono (by decide)) (by rfl) T.g_sign T.F_sign.kp T.b_sign .nil pass0 (pa_cons (pe_op op_sub (pe_op op_mulW (pe_ix ix_tup (pv 0) pe_int (fun _ _ => rfl)) (pe_ix ix_tup (pv 1) pe_int (fun _ _ => rfl))) (pe_op op_mulW (pe_ix ix_tup (pv 1) pe_int (fun _ _ => rfl)) (pe_ix ix_tup (pv 0) pe_int (fun _ _ => rfl)))) pa_nil)))))), ?_⟩
  refine q_asg (Z := Z) (by walk_at "w") (by walk_at "ev") fun v1 H1 e1 r1 => ?_
  subst r1
  refine s_ret (Z := Z) (by walk_at "w") (R := IsV (.int (ordP a b))) (ev_if (by walk_at "et") (fun hb => ?_) (fun hb => ?_)) fun v2 H6 e6 r2 => hq _ _ (by walk_at "xt") r2
  · refine ev_is (by walk_at "ev") ?_
    unfold ordP
    rw [if_pos (by simpa using hb)]
  · refine ev_is (by walk_at "ev") ?_
    unfold ordP
    rw [if_neg (by simpa using hb)]
section
variable {Z : Wd} {σ : L2.St} {H : Hp} {ta tb tc : TE} {E : XK}
theorem ev_order_of {va vb : V} {a b : Pt} (h1 : Ev Z ta σ H (IsV va)) (h2 : Ev Z tb σ H (IsV vb)) (pa : P3 Z va a H) (pb : P3 Z vb b H) (na : Nm a) (nb : Nm b) : Ev Z (tCall (spOf G_order_of) [] E (tCons ta (tCons tb tNil))) σ H (IsV (.int (ordP a b))) :=
  ev_call (ea_cons h1 (ea_cons h2 ea_nil)) fun H1 e => ⟨va, vb, a, b, rfl, pa.mono e, pb.mono e, na, nb, rfl⟩
end
/-! turn_of -/
def G_turn_of : Gv := fun Z vs H R => ∃ va vb vc a b c, vs = [va, vb, vc] ∧ P3 Z va a H ∧ P3 Z vb b H ∧ P3 Z vc c H ∧ Nm a ∧ Nm b ∧ Nm c ∧ R = IsV (.int (sgn (det a b c)))
theorem ok_turn_of (T : Tx K mg) : FnOk P w K mg base CX0 2 T.f_turn_of T.d_turn_of ["a", "b", "c"] (spOf G_turn_of) := by
  refine T.F_turn_of.ok sc_turn_of (fun vs H Q E h => ?_) (fun cdv A outer s H vs Q E hr h => ?_)
  · obtain ⟨Z, R, _, ⟨va, vb, vc, a, b, c, rfl, _⟩, _⟩ := h
    rfl
  obtain ⟨Z, R, hw, ⟨va, vb, vc, a, b, c, rfl, pa, pb, pc, na, nb, nc, rfl⟩, hq⟩ := h
  refine ⟨_, (pss_one (ps_ret (pe_call (ok_sign T) (hr.mono (by decide)) (by rfl) T.g_sign T.F_sign.kp T.b_sign .nil pass0 (pa_cons (pe_call (ok_doubled T) (hr.mono (by decide)) (by rfl) T.g_doubled T.F_doubled.kp T.b_doubled .nil pass0 (pa_cons (pv 0) (pa_cons (pv 1) (pa_cons (pv 2) pa_nil)))) pa_nil)))), ?_⟩
  exact s_ret (Z := Z) (by walk_at "w") (by walk_at "ev") fun v3 H3 e3 r3 => hq _ _ (by walk_at "xt") r3
section
variable {Z : Wd} {σ : L2.St} {H : Hp} {ta tb tc : TE} {E : XK}
theorem ev_turn_of {va vb vc : V} {a b c : Pt} (h1 : Ev Z ta σ H (IsV va)) (h2 : Ev Z tb σ H (IsV vb)) (h3 : Ev Z tc σ H (IsV vc)) (pa : P3 Z va a H) (pb : P3 Z vb b H) (pc : P3 Z vc c H) (na : Nm a) (nb : Nm b) (nc : Nm c) :
    Ev Z (tCall (spOf G_turn_of) [] E (tCons ta (tCons tb (tCons tc tNil)))) σ H (IsV (.int (sgn (det a b c)))) :=
  ev_call (ea_cons h1 (ea_cons h2 (ea_cons h3 ea_nil))) fun H1 e => ⟨va, vb, vc, a, b, c, rfl, pa.mono e, pb.mono e, pc.mono e, na, nb, nc, rfl⟩
end
/-! line_through -/
def G_line_through : Gv := fun Z vs H R => ∃ va vb a b, vs = [va, vb] ∧ P3 Z va a H ∧ P3 Z vb b H ∧ Nm a ∧ Nm b ∧ R = TuR Z [.int (a.y * b.w - b.y * a.w), .int (b.x * a.w - a.x * b.w), .int (b.x * a.y - a.x * b.y)]
theorem ok_line_through (T : Tx K mg) : FnOk P w K mg base CX0 1 T.f_line_through T.d_line_through ["a", "b"] (spOf G_line_through) := by
  refine T.F_line_through.ok sc_line_through (fun vs H Q E h => ?_) (fun cdv A outer s H vs Q E hr h => ?_)
  · obtain ⟨Z, R, _, ⟨va, vb, a, b, rfl, _⟩, _⟩ := h
    rfl
  obtain ⟨Z, R, hw, ⟨va, vb, a, b, rfl, pa, pb, ⟨a1, a2, a3, _⟩, ⟨b1, b2, b3, _⟩, rfl⟩, hq⟩ := h
  refine ⟨_, (pss_cons (ps_par (i := 2) (j := 3) rfl sc_line_through.nd rfl rfl (by decide) rfl rfl (pa_cons (pe_op op_sub (pe_op op_mulW (pe_ix ix_tup (pv 0) pe_int (fun _ _ => rfl)) (pe_ix ix_tup (pv 1) pe_int (fun _ _ => rfl))) (pe_op op_mulW (pe_ix ix_tup (pv 1) pe_int (fun _ _ => rfl)) (pe_ix ix_tup (pv 0) pe_int (fun _ _ => rfl)))) (pa_cons (pe_op op_sub (pe_op op_mulW (pe_ix ix_tup (pv 1) pe_int (fun _ _ => rfl)) (pe_ix ix_tup (pv 0) pe_int (fun _ _ => rfl))) (pe_op op_mulW (pe_ix ix_tup (pv 0) pe_int (fun _ _ => rfl)) (pe_ix ix_tup (pv 1) pe_int (fun _ _ => rfl)))) pa_nil)) (by rfl))
  (pss_one (ps_ret (pe_tup (pa_cons (pv 2) (pa_cons (pv 3) (pa_cons (pe_op op_sub (pe_op op_mulW (pe_ix ix_tup (pv 1) pe_int (fun _ _ => rfl)) (pe_ix ix_tup (pv 0) pe_int (fun _ _ => rfl))) (pe_op op_mulW (pe_ix ix_tup (pv 0) pe_int (fun _ _ => rfl)) (pe_ix ix_tup (pv 1) pe_int (fun _ _ => rfl)))) pa_nil))))))), ?_⟩
  refine q_par (Z := Z) (by walk_at "w") (by walk_at "ea") fun vs H1 e1 hv => ⟨_, _, hv, ?_⟩
  exact s_ret (Z := Z) (by walk_at "w") (ev_tup (by walk_at "ea") (by simp)) fun v3 H3 e3 r3 => hq _ _ (by walk_at "xt") r3
end
local macro_rules | `(tactic| walk_at "bd") => `(tactic| first
  | assumption
  | exact (show B 64 _ from by unfold B; decide)
  | (refine' B.mul ?b1 ?b2; (case b1 => walk_at "bd"); (case b2 => walk_at "bd"))
  | (refine' B.sub ?b1 ?b2; (case b1 => walk_at "bd"); (case b2 => walk_at "bd"))
  | (refine' B.add ?b1 ?b2; (case b1 => walk_at "bd"); (case b2 => walk_at "bd"))
  | (refine' B.neg ?b1; (case b1 => walk_at "bd")))
local macro_rules | `(tactic| walk_at "da") => `(tactic| first
  | assumption
  | exact Da.int _
  | exact Da.non
  | exact Da.bl _
  | exact Da.str _
  | ((with_reducible refine' P3.mono (by assumption) ?d1); (case d1 => walk_at "da"))
  | ((with_reducible refine' Ra.mono (by assumption) ?d1); (case d1 => walk_at "da"))
  | ((with_reducible refine' TuR.mono (by assumption) ?d1); (case d1 => walk_at "da"))
  | ((with_reducible refine' LiR.mono (by assumption) ?d1); (case d1 => walk_at "da"))
  | ((with_reducible refine' Da.mono (by assumption) ?d1); (case d1 => walk_at "da")))
local macro_rules | `(tactic| walk_at "xt") => `(tactic| first
  | assumption
  | (refine' Xt.trans ?x1 (by assumption); (case x1 => walk_at "xt")))
local macro_rules | `(tactic| walk_at "w") => `(tactic| first
  | assumption
  | exact Xt.w2 (by assumption)
  | exact Xt.w1 (by assumption))
local macro_rules | `(tactic| walk_at "side") => `(tactic| first
  | assumption
  | (refine' B.cmul ?b1 ?b2 ?b3; (case b1 => walk_at "bd"); (case b2 => walk_at "bd"); (case b3 => first | decide | omega))
  | (refine' B.cdiv ?b1 ?b2 ?b3; (case b1 => assumption); (case b2 => walk_at "bd"); (case b3 => first | decide | omega)))
local macro_rules | `(tactic| walk_at "ea") => `(tactic| first
  | with_reducible exact ea_nil
  | ((with_reducible refine' ea_cons ?p1 ?p2); (case p1 => walk_at "ev"); (case p2 => walk_at "ea")))
local macro_rules | `(tactic| walk_at "et") => `(tactic| first
  | ((with_reducible refine' et_and ?p1 ?p2); (case p1 => walk_at "et"); (case p2 => intro _; walk_at "et"))
  | ((with_reducible refine' et_or ?p1 ?p2); (case p1 => walk_at "et"); (case p2 => intro _; walk_at "et"))
  | ((with_reducible refine' et_not ?p1); (case p1 => walk_at "et"))
  | ((with_reducible refine' et_test ?p1); (case p1 => walk_at "ev"))
  | ((with_reducible refine' et_B ?p1); (case p1 => walk_at "ev")))
local macro_rules | `(tactic| walk_at "ev") => `(tactic| first
  | with_reducible exact ev_c
  | ((with_reducible refine' ev_var ?v1); (case v1 => exact rfl))
  | ((with_reducible refine' ev_px ?p1 ?p2 ?p3); (case p1 => walk_at "ev"); (case p2 => walk_at "da"); (case p3 => with_reducible exact ev_c))
  | ((with_reducible refine' ev_py ?p1 ?p2 ?p3); (case p1 => walk_at "ev"); (case p2 => walk_at "da"); (case p3 => with_reducible exact ev_c))
  | ((with_reducible refine' ev_pw ?p1 ?p2 ?p3); (case p1 => walk_at "ev"); (case p2 => walk_at "da"); (case p3 => with_reducible exact ev_c))
  | ((with_reducible refine' ev_ixT ?p1 ?p2 ?p3 ?p4); (case p1 => walk_at "ev"); (case p2 => walk_at "da"); (case p3 => walk_at "ev"); (case p4 => first | exact rfl | assumption))
  | ((with_reducible refine' ev_ixL ?p1 ?p2 ?p3 ?p4); (case p1 => walk_at "ev"); (case p2 => walk_at "da"); (case p3 => walk_at "ev"); (case p4 => first | exact rfl | assumption))
  | ((with_reducible refine' ev_i0 ?p1 ?p2); (case p1 => walk_at "ev"); (case p2 => walk_at "ev"))
  | ((with_reducible refine' ev_iC ?p1 ?p2 ?p3); (case p1 => walk_at "ev"); (case p2 => walk_at "ev"); (case p3 => walk_at "side"))
  | ((with_reducible refine' ev_neg ?p1); (case p1 => walk_at "ev"))
  | ((with_reducible refine' ev_eq ?p1 ?p2 ?p3); (case p1 => walk_at "ev"); (case p2 => walk_at "ev"); (case p3 => exact rfl))
  | ((with_reducible refine' ev_ne ?p1 ?p2 ?p3); (case p1 => walk_at "ev"); (case p2 => walk_at "ev"); (case p3 => exact rfl))
  | ((with_reducible refine' ev_andV ?p1 ?p2); (case p1 => walk_at "ev"); (case p2 => intro _; walk_at "ev"))
  | ((with_reducible refine' ev_orV ?p1 ?p2); (case p1 => walk_at "ev"); (case p2 => intro _; walk_at "ev"))
  | ((with_reducible refine' ev_notV ?p1); (case p1 => walk_at "ev"))
  | ((with_reducible refine' ev_subB ?p1 ?p2); (case p1 => walk_at "ev"); (case p2 => walk_at "ev"))
  | ((with_reducible refine' ev_chI ?p1 ?p2 ?p3); (case p1 => walk_at "ev"); (case p2 => walk_at "ev"); (case p3 => walk_at "ev"))
  | ((with_reducible refine' ev_isInt ?p1 ?p2); (case p1 => walk_at "ev"); (case p2 => walk_at "da"))
  | ((with_reducible refine' ev_isBool ?p1 ?p2); (case p1 => walk_at "ev"); (case p2 => walk_at "da"))
  | ((with_reducible refine' ev_isStr ?p1 ?p2); (case p1 => walk_at "ev"); (case p2 => walk_at "da"))
  | ((with_reducible refine' ev_isTup ?p1 ?p2); (case p1 => walk_at "ev"); (case p2 => walk_at "da"))
  | ((with_reducible refine' ev_isLst ?p1 ?p2); (case p1 => walk_at "ev"); (case p2 => walk_at "da"))
  | ((with_reducible refine' ev_isTL ?p1 ?p2); (case p1 => walk_at "ev"); (case p2 => walk_at "da"))
  | ((with_reducible refine' ev_lenT ?p1 ?p2); (case p1 => walk_at "ev"); (case p2 => walk_at "da"))
  | ((with_reducible refine' ev_lenL ?p1 ?p2); (case p1 => walk_at "ev"); (case p2 => walk_at "da"))
  | ((with_reducible refine' ev_abs ?p1); (case p1 => walk_at "ev"))
  | ((with_reducible refine' ev_min2 ?p1 ?p2); (case p1 => walk_at "ev"); (case p2 => walk_at "ev"))
  | ((with_reducible refine' ev_int1 ?p1); (case p1 => walk_at "ev"))
  | ((with_reducible refine' ev_isN ?p1); (case p1 => walk_at "ev"))
  | ((with_reducible refine' ev_notN ?p1); (case p1 => walk_at "ev"))
  | ((with_reducible refine' ev_sign ?p1); (case p1 => walk_at "ev"))
  | ((with_reducible refine' ev_gcd ?p1 ?p2); (case p1 => walk_at "ev"); (case p2 => walk_at "ev"))
  | ((with_reducible refine' ev_is_in ?p1 ?p2 ?p3 ?p4); (case p1 => walk_at "ev"); (case p2 => walk_at "da"); (case p3 => walk_at "ev"); (case p4 => walk_at "ev"))
  | ((with_reducible refine' ev_doubled ?p1 ?p2 ?p3 ?p4 ?p5 ?p6 ?p7 ?p8 ?p9); (case p1 => walk_at "ev"); (case p2 => walk_at "ev"); (case p3 => walk_at "ev"); (case p4 => walk_at "da"); (case p5 => walk_at "da"); (case p6 => walk_at "da"); (case p7 => assumption); (case p8 => assumption); (case p9 => assumption))
  | ((with_reducible refine' ev_order_of ?p1 ?p2 ?p3 ?p4 ?p5 ?p6); (case p1 => walk_at "ev"); (case p2 => walk_at "ev"); (case p3 => walk_at "da"); (case p4 => walk_at "da"); (case p5 => assumption); (case p6 => assumption))
  | ((with_reducible refine' ev_turn_of ?p1 ?p2 ?p3 ?p4 ?p5 ?p6 ?p7 ?p8 ?p9); (case p1 => walk_at "ev"); (case p2 => walk_at "ev"); (case p3 => walk_at "ev"); (case p4 => walk_at "da"); (case p5 => walk_at "da"); (case p6 => walk_at "da"); (case p7 => assumption); (case p8 => assumption); (case p9 => assumption))
  | ((with_reducible refine' ev_is_between ?p1 ?p2 ?p3 ?p4 ?p5 ?p6 ?p7 ?p8 ?p9); (case p1 => walk_at "ev"); (case p2 => walk_at "ev"); (case p3 => walk_at "ev"); (case p4 => walk_at "da"); (case p5 => walk_at "da"); (case p6 => walk_at "da"); (case p7 => assumption); (case p8 => assumption); (case p9 => assumption)))

section
variable {P : Program} {w : World} {K : PySem.W.Frag} {mg : Str → Option Value} {base : Heap}
/-! is_between -/
def btw (a b p : Pt) : Bool := if ordP a b = 0 then decide (ordP a p = 0) else decide (sgn (det a b p) = 0) && decide (0 ≤ ordP a p * ordP p b)
theorem sgn_B (n : Int) : B 64 (sgn n) := by
  unfold B sgn
  split
  · decide
  · split <;> decide
theorem ordP_B (a b : Pt) : B 64 (ordP a b) := by
  unfold ordP
  split <;> exact sgn_B _
def G_is_between : Gv := fun Z vs H R => ∃ va vb vc a b c, vs = [va, vb, vc] ∧ P3 Z va a H ∧ P3 Z vb b H ∧ P3 Z vc c H ∧ Nm a ∧ Nm b ∧ Nm c ∧ R = IsV (.bl (btw a b c))
theorem ok_is_between (T : Tx K mg) : FnOk P w K mg base CX0 3 T.f_is_between T.d_is_between ["a", "b", "p"] (spOf G_is_between) := by
  refine T.F_is_between.ok sc_is_between (fun vs H Q E h => ?_) (fun cdv A outer s H vs Q E hr h => ?_)
  · obtain ⟨Z, R, _, ⟨va, vb, vc, a, b, c, rfl, _⟩, _⟩ := h
    rfl
  obtain ⟨Z, R, hw, ⟨va, vb, vc, a, b, c, rfl, pa, pb, pc, na, nb, nc, rfl⟩, hq⟩ := h
  refine ⟨_, (pss_cons (ps_if (pt_cmpR op_eq (pe_call (ok_order_of T) (hr.mono (by decide)) (by rfl) T.g_order_of T.F_order_of.kp T.b_order_of .nil pass0 (pa_cons (pv 0) (pa_cons (pv 1) pa_nil))) pe_int (nomark _))
  (pss_one (ps_ret (pe_cmpR op_eq (pe_call (ok_order_of T) (hr.mono (by decide)) (by rfl) T.g_order_of T.F_order_of.kp T.b_order_of .nil pass0 (pa_cons (pv 0) (pa_cons (pv 2) pa_nil))) pe_int (nomark _))))
  pss_nil)
  (pss_one (ps_ret (pe_and (pe_cmpR op_eq (pe_call (ok_turn_of T) (hr.mono (by decide)) (by rfl) T.g_turn_of T.F_turn_of.kp T.b_turn_of .nil pass0 (pa_cons (pv 0) (pa_cons (pv 1) (pa_cons (pv 2) pa_nil)))) pe_int (nomark _)) (pe_one (pe_cmpR op_ge (pe_op op_mulW (pe_call (ok_order_of T) (hr.mono (by decide)) (by rfl) T.g_order_of T.F_order_of.kp T.b_order_of .nil pass0 (pa_cons (pv 0) (pa_cons (pv 2) pa_nil))) (pe_call (ok_order_of T) (hr.mono (by decide)) (by rfl) T.g_order_of T.F_order_of.kp T.b_order_of .nil pass0 (pa_cons (pv 2) (pa_cons (pv 1) pa_nil)))) pe_int (nomark _))))))), ?_⟩
  have o1 := ordP_B a c
  have o2 := ordP_B c b
  refine q_when (Z := Z) (by walk_at "w") (by walk_at "et") (fun hb H1 e1 => ?_) (fun hb H1 e1 => ?_)
  · refine s_ret (Z := Z) (by walk_at "w") (R := IsV (.bl (btw a b c))) (ev_is (by walk_at "ev") ?_) fun v2 H6 e6 r2 => hq _ _ (by walk_at "xt") r2
    unfold btw
    rw [if_pos (by simpa using hb)]
    simp
  · refine s_ret (Z := Z) (by walk_at "w") (R := IsV (.bl (btw a b c))) (ev_is (by walk_at "ev") ?_) fun v2 H6 e6 r2 => hq _ _ (by walk_at "xt") r2
    unfold btw
    rw [if_neg (by simpa using hb)]
    simp
section
variable {Z : Wd} {σ : L2.St} {H : Hp} {ta tb tc : TE} {E : XK}
theorem ev_is_between {va vb vc : V} {a b c : Pt} (h1 : Ev Z ta σ H (IsV va)) (h2 : Ev Z tb σ H (IsV vb)) (h3 : Ev Z tc σ H (IsV vc)) (pa : P3 Z va a H) (pb : P3 Z vb b H) (pc : P3 Z vc c H) (na : Nm a) (nb : Nm b) (nc : Nm c) :
    Ev Z (tCall (spOf G_is_between) [] E (tCons ta (tCons tb (tCons tc tNil)))) σ H (IsV (.bl (btw a b c))) :=
  ev_call (ea_cons h1 (ea_cons h2 (ea_cons h3 ea_nil))) fun H1 e => ⟨va, vb, vc, a, b, c, rfl, pa.mono e, pb.mono e, pc.mono e, na, nb, nc, rfl⟩
end
end
end Hk
/-! ## F4 -/
namespace Hk
open PySem PySem.Spec PyProof.Rows L2
local macro_rules | `(tactic| walk_at "bd") => `(tactic| first
  | assumption
  | exact (show B 64 _ from by unfold B; decide)
  | (refine' B.mul ?b1 ?b2; (case b1 => walk_at "bd"); (case b2 => walk_at "bd"))
  | (refine' B.sub ?b1 ?b2; (case b1 => walk_at "bd"); (case b2 => walk_at "bd"))
  | (refine' B.add ?b1 ?b2; (case b1 => walk_at "bd"); (case b2 => walk_at "bd"))
  | (refine' B.neg ?b1; (case b1 => walk_at "bd")))
local macro_rules | `(tactic| walk_at "da") => `(tactic| first
  | assumption
  | exact Da.int _
  | exact Da.non
  | exact Da.bl _
  | exact Da.str _
  | ((with_reducible refine' P3.mono (by assumption) ?d1); (case d1 => walk_at "da"))
  | ((with_reducible refine' Ra.mono (by assumption) ?d1); (case d1 => walk_at "da"))
  | ((with_reducible refine' TuR.mono (by assumption) ?d1); (case d1 => walk_at "da"))
  | ((with_reducible refine' LiR.mono (by assumption) ?d1); (case d1 => walk_at "da"))
  | ((with_reducible refine' Da.mono (by assumption) ?d1); (case d1 => walk_at "da")))
local macro_rules | `(tactic| walk_at "xt") => `(tactic| first
  | assumption
  | (refine' Xt.trans ?x1 (by assumption); (case x1 => walk_at "xt")))
local macro_rules | `(tactic| walk_at "w") => `(tactic| first
  | assumption
  | exact Xt.w2 (by assumption)
  | exact Xt.w1 (by assumption))
local macro_rules | `(tactic| walk_at "side") => `(tactic| first
  | assumption
  | (refine' B.cmul ?b1 ?b2 ?b3; (case b1 => walk_at "bd"); (case b2 => walk_at "bd"); (case b3 => first | decide | omega))
  | (refine' B.cdiv ?b1 ?b2 ?b3; (case b1 => assumption); (case b2 => walk_at "bd"); (case b3 => first | decide | omega)))
local macro_rules | `(tactic| walk_at "ea") => `(tactic| first
  | with_reducible exact ea_nil
  | ((with_reducible refine' ea_cons ?p1 ?p2); (case p1 => walk_at "ev"); (case p2 => walk_at "ea")))
local macro_rules | `(tactic| walk_at "et") => `(tactic| first
  | ((with_reducible refine' et_and ?p1 ?p2); (case p1 => walk_at "et"); (case p2 => intro _; walk_at "et"))
  | ((with_reducible refine' et_or ?p1 ?p2); (case p1 => walk_at "et"); (case p2 => intro _; walk_at "et"))
  | ((with_reducible refine' et_not ?p1); (case p1 => walk_at "et"))
  | ((with_reducible refine' et_test ?p1); (case p1 => walk_at "ev"))
  | ((with_reducible refine' et_B ?p1); (case p1 => walk_at "ev")))
local macro_rules | `(tactic| walk_at "ev") => `(tactic| first
  | with_reducible exact ev_c
  | ((with_reducible refine' ev_var ?v1); (case v1 => exact rfl))
  | ((with_reducible refine' ev_px ?p1 ?p2 ?p3); (case p1 => walk_at "ev"); (case p2 => walk_at "da"); (case p3 => with_reducible exact ev_c))
  | ((with_reducible refine' ev_py ?p1 ?p2 ?p3); (case p1 => walk_at "ev"); (case p2 => walk_at "da"); (case p3 => with_reducible exact ev_c))
  | ((with_reducible refine' ev_pw ?p1 ?p2 ?p3); (case p1 => walk_at "ev"); (case p2 => walk_at "da"); (case p3 => with_reducible exact ev_c))
  | ((with_reducible refine' ev_ixT ?p1 ?p2 ?p3 ?p4); (case p1 => walk_at "ev"); (case p2 => walk_at "da"); (case p3 => walk_at "ev"); (case p4 => first | exact rfl | assumption))
  | ((with_reducible refine' ev_ixL ?p1 ?p2 ?p3 ?p4); (case p1 => walk_at "ev"); (case p2 => walk_at "da"); (case p3 => walk_at "ev"); (case p4 => first | exact rfl | assumption))
  | ((with_reducible refine' ev_i0 ?p1 ?p2); (case p1 => walk_at "ev"); (case p2 => walk_at "ev"))
  | ((with_reducible refine' ev_iC ?p1 ?p2 ?p3); (case p1 => walk_at "ev"); (case p2 => walk_at "ev"); (case p3 => walk_at "side"))
  | ((with_reducible refine' ev_neg ?p1); (case p1 => walk_at "ev"))
  | ((with_reducible refine' ev_eq ?p1 ?p2 ?p3); (case p1 => walk_at "ev"); (case p2 => walk_at "ev"); (case p3 => exact rfl))
  | ((with_reducible refine' ev_ne ?p1 ?p2 ?p3); (case p1 => walk_at "ev"); (case p2 => walk_at "ev"); (case p3 => exact rfl))
  | ((with_reducible refine' ev_andV ?p1 ?p2); (case p1 => walk_at "ev"); (case p2 => intro _; walk_at "ev"))
  | ((with_reducible refine' ev_orV ?p1 ?p2); (case p1 => walk_at "ev"); (case p2 => intro _; walk_at "ev"))
  | ((with_reducible refine' ev_notV ?p1); (case p1 => walk_at "ev"))
  | ((with_reducible refine' ev_subB ?p1 ?p2); (case p1 => walk_at "ev"); (case p2 => walk_at "ev"))
  | ((with_reducible refine' ev_chI ?p1 ?p2 ?p3); (case p1 => walk_at "ev"); (case p2 => walk_at "ev"); (case p3 => walk_at "ev"))
  | ((with_reducible refine' ev_isInt ?p1 ?p2); (case p1 => walk_at "ev"); (case p2 => walk_at "da"))
  | ((with_reducible refine' ev_isBool ?p1 ?p2); (case p1 => walk_at "ev"); (case p2 => walk_at "da"))
  | ((with_reducible refine' ev_isStr ?p1 ?p2); (case p1 => walk_at "ev"); (case p2 => walk_at "da"))
  | ((with_reducible refine' ev_isTup ?p1 ?p2); (case p1 => walk_at "ev"); (case p2 => walk_at "da"))
  | ((with_reducible refine' ev_isLst ?p1 ?p2); (case p1 => walk_at "ev"); (case p2 => walk_at "da"))
  | ((with_reducible refine' ev_isTL ?p1 ?p2); (case p1 => walk_at "ev"); (case p2 => walk_at "da"))
  | ((with_reducible refine' ev_lenT ?p1 ?p2); (case p1 => walk_at "ev"); (case p2 => walk_at "da"))
  | ((with_reducible refine' ev_lenL ?p1 ?p2); (case p1 => walk_at "ev"); (case p2 => walk_at "da"))
  | ((with_reducible refine' ev_abs ?p1); (case p1 => walk_at "ev"))
  | ((with_reducible refine' ev_min2 ?p1 ?p2); (case p1 => walk_at "ev"); (case p2 => walk_at "ev"))
  | ((with_reducible refine' ev_int1 ?p1); (case p1 => walk_at "ev"))
  | ((with_reducible refine' ev_isN ?p1); (case p1 => walk_at "ev"))
  | ((with_reducible refine' ev_notN ?p1); (case p1 => walk_at "ev"))
  | ((with_reducible refine' ev_sign ?p1); (case p1 => walk_at "ev"))
  | ((with_reducible refine' ev_gcd ?p1 ?p2); (case p1 => walk_at "ev"); (case p2 => walk_at "ev"))
  | ((with_reducible refine' ev_is_in ?p1 ?p2 ?p3 ?p4); (case p1 => walk_at "ev"); (case p2 => walk_at "da"); (case p3 => walk_at "ev"); (case p4 => walk_at "ev"))
  | ((with_reducible refine' ev_doubled ?p1 ?p2 ?p3 ?p4 ?p5 ?p6 ?p7 ?p8 ?p9); (case p1 => walk_at "ev"); (case p2 => walk_at "ev"); (case p3 => walk_at "ev"); (case p4 => walk_at "da"); (case p5 => walk_at "da"); (case p6 => walk_at "da"); (case p7 => assumption); (case p8 => assumption); (case p9 => assumption))
  | ((with_reducible refine' ev_order_of ?p1 ?p2 ?p3 ?p4 ?p5 ?p6); (case p1 => walk_at "ev"); (case p2 => walk_at "ev"); (case p3 => walk_at "da"); (case p4 => walk_at "da"); (case p5 => assumption); (case p6 => assumption))
  | ((with_reducible refine' ev_turn_of ?p1 ?p2 ?p3 ?p4 ?p5 ?p6 ?p7 ?p8 ?p9); (case p1 => walk_at "ev"); (case p2 => walk_at "ev"); (case p3 => walk_at "ev"); (case p4 => walk_at "da"); (case p5 => walk_at "da"); (case p6 => walk_at "da"); (case p7 => assumption); (case p8 => assumption); (case p9 => assumption))
  | ((with_reducible refine' ev_is_between ?p1 ?p2 ?p3 ?p4 ?p5 ?p6 ?p7 ?p8 ?p9); (case p1 => walk_at "ev"); (case p2 => walk_at "ev"); (case p3 => walk_at "ev"); (case p4 => walk_at "da"); (case p5 => walk_at "da"); (case p6 => walk_at "da"); (case p7 => assumption); (case p8 => assumption); (case p9 => assumption)))
section
variable {P : Program} {w : World} {K : PySem.W.Frag} {mg : Str → Option Value} {base : Heap}
theorem Ok.nm {p : Pt} (h : Ok p) : Nm p := by
  obtain ⟨⟨x1, x2⟩, ⟨y1, y2⟩, ⟨w1, w2⟩, _⟩ := h
  unfold LG at *
  refine ⟨?_, ?_, ?_, by omega⟩ <;> (unfold B; omega)
/-! is_ratio -/
def isRat (d : PyData) : Bool := match d with
  | .tuple [.int n, .int m] => decide (0 < m) && decide (gcdI n m = 1)
  | _ => false
theorem isRat_len {ds : List PyData} (h : ds.length ≠ 2) : isRat (.tuple ds) = false := by
  unfold isRat
  split
  · rename_i e
    cases e
    exact absurd rfl h
  · rfl
def G_is_ratio : Gv := fun Z vs H R => ∃ v d, vs = [v] ∧ Da Z H v d ∧ R = IsV (.bl (isRat d))
theorem ok_is_ratio (T : Tx K mg) : FnOk P w K mg base CX0 2 T.f_is_ratio T.d_is_ratio ["value"] (spOf G_is_ratio) := by
  refine T.F_is_ratio.ok sc_is_ratio (fun vs H Q E h => ?_) (fun cdv A outer s H vs Q E hr h => ?_)
  · obtain ⟨Z, R, _, ⟨v, d, rfl, _⟩, _⟩ := h
    rfl
  obtain ⟨Z, R, hw, ⟨v, d, rfl, hd, rfl⟩, hq⟩ := h
  refine ⟨_, (pss_cons (ps_if (PW.pt (pw_or (pt_not (pt_val (pe_callB call_isi (by rfl) T.z_isinstance (by decide +kernel) (pa_cons (pv 0) (pa_cons (pe_bltn (v := .ty "tuple") (u := .type "tuple") (by rfl) T.z_tuple (by decide +kernel) rfl) pa_nil))))) (pw_or1 (pt_cmpR op_ne (pe_callB call_len_seq (by rfl) T.z_len (by decide +kernel) (pa_cons (pv 0) pa_nil)) pe_int (nomark _)))))
  (pss_one (ps_ret pe_bl))
  pss_nil)
  (pss_cons (ps_for PassesOwn.never rfl (pi_tup (pv 0)) (pg_name (i := 1) sc_is_ratio.nd rfl (Or.inl rfl))
  (pss_one (ps_if (PW.pt (pw_or (pt_not (pt_val (pe_callB call_isi (by rfl) T.z_isinstance (by decide +kernel) (pa_cons (pv 1) (pa_cons (pe_bltn (v := .ty "int") (u := .type "int") (by rfl) T.z_int (by decide +kernel) rfl) pa_nil))))) (pw_or1 (pt_val (pe_callB call_isi (by rfl) T.z_isinstance (by decide +kernel) (pa_cons (pv 1) (pa_cons (pe_bltn (v := .ty "bool") (u := .type "bool") (by rfl) T.z_bool (by decide +kernel) rfl) pa_nil)))))))
    (pss_one (ps_ret pe_bl))
    pss_nil)))
  (pss_one (ps_ret (pe_and (pe_cmpR op_gt (pe_ix ix_tup (pv 0) pe_int (fun _ _ => rfl)) pe_int (nomark _)) (pe_one (pe_cmpR op_eq (pe_call (ok_gcd T) (hr.mono (by decide)) (by rfl) T.g_gcd T.F_gcd.kp T.b_gcd .nil pass0 (pa_cons (pe_ix ix_tup (pv 0) pe_int (fun _ _ => rfl)) (pa_cons (pe_ix ix_tup (pv 0) pe_int (fun _ _ => rfl)) pa_nil))) pe_int (nomark _)))))))), ?_⟩
  rw [show L2.start nm_is_ratio [v] = [some v, none] from rfl]
  have no : ∀ {H5}, Xt Z H H5 → isRat d = false → Q (.bl false) H5 := fun {H5} e5 h => hq _ _ e5 (by rw [h])
  cases hT : isT d with
  | false =>
    refine q_when (Z := Z) (b := true) hw (et_is (et_or (b := true) (et_not (et_B (ev_isTup (by walk_at "ev") hd))) (fun h => by rw [hT] at h; cases h)) (by rw [hT]; rfl)) (fun _ H1 e1 => ?_) (fun h => by cases h)
    refine s_ret (Z := Z) (by walk_at "w") (by walk_at "ev") fun v1 H2 e2 r1 => ?_
    subst r1
    exact no (by walk_at "xt") (by cases d <;> simp [isT, isRat] at hT ⊢)
  | true =>
    obtain ⟨ds, rfl⟩ : ∃ ds, d = .tuple ds := by
      cases d <;> simp [isT] at hT
      exact ⟨_, rfl⟩
    obtain ⟨xs, hx, hxs⟩ := hd.tupE
    have hlen := hxs.length
    refine q_when (Z := Z) hw (by walk_at "et") (fun hb H1 e1 => ?_) (fun hb H1 e1 => ?_)
    · refine s_ret (Z := Z) (by walk_at "w") (by walk_at "ev") fun v1 H2 e2 r1 => ?_
      subst r1
      refine no (by walk_at "xt") ?_
      have h2 : ds.length ≠ 2 := by
        simp [isT] at hb
        omega
      exact isRat_len h2
    · have h2 : ds.length = 2 := by
        simp [isT] at hb
        omega
      obtain ⟨d1, d2, rfl⟩ : ∃ d1 d2, ds = [d1, d2] := by
        match ds, h2 with
        | [d1, d2], _ => exact ⟨d1, d2, rfl⟩
      refine q_forT (Z := Z) (by walk_at "w") (by walk_at "ev") (hx.mono e1) (fun i σ' H' => ∃ y, σ' = [some v, y] ∧ Xt Z H H' ∧ ∀ j dj, j < i → [d1, d2][j]? = some dj → ∃ k, dj = .int k) (fun H2 e2 => ⟨none, rfl, by walk_at "xt", fun j _ h => absurd h (Nat.not_lt_zero _)⟩) (fun i σ' H' ⟨y, _, e2, _⟩ => hx.mono e2) (fun i y σ' H' hy ⟨y0, es, e2, hp⟩ => ?_) (fun σ' H' ⟨y0, es, e2, hp⟩ => ?_)
      · subst es
        obtain ⟨dy, hdy, hyd⟩ := hxs.getV hy
        have hyd2 := hyd.mono e2
        show tIfS _ _ _ _ [some v, some y] H'
        refine s_when (Z := Z) (by walk_at "w") (by walk_at "et") (fun hb H3 e3 => ?_) (fun hb H3 e3 => ?_)
        · refine s_ret (Z := Z) (by walk_at "w") (by walk_at "ev") fun v1 H4 e4 r1 => ?_
          subst r1
          refine no (by walk_at "xt") ?_
          have hni : ∀ k, dy ≠ .int k := fun k hk => by
            subst hk
            simp [isI, isB] at hb
          have hi : i < 2 := (List.getElem?_eq_some_iff.mp hdy).1
          match i, hi, hdy with
          | 0, _, h =>
            have : d1 = dy := by simpa using h
            subst this
            cases d1 <;> first | rfl | (cases d2 <;> first | rfl | exact absurd rfl (hni _))
          | 1, _, h =>
            have : d2 = dy := by simpa using h
            subst this
            cases d1 <;> first | rfl | (cases d2 <;> first | rfl | exact absurd rfl (hni _))
        · refine ⟨some y, rfl, by walk_at "xt", fun j dj hj hd => ?_⟩
          rcases Nat.lt_or_eq_of_le (Nat.lt_succ_iff.mp hj) with h | h
          · exact hp j dj h hd
          · subst h
            rw [hdy] at hd
            cases hd
            cases dy <;> simp [isI, isB] at hb
            exact ⟨_, rfl⟩
      · subst es
        have n2 : xs.length = 2 := by rw [hlen]; rfl
        obtain ⟨n, rfl⟩ := hp 0 d1 (by rw [n2]; decide) rfl
        obtain ⟨m, rfl⟩ := hp 1 d2 (by rw [n2]; decide) rfl
        cases hxs with
        | cons a b =>
          cases a
          cases b with
          | cons a b =>
            cases a
            cases b
            have hx2 := hx.mono e2
            refine s_ret (Z := Z) (R := IsV (.bl (isRat (.tuple [.int n, .int m])))) (by walk_at "w") (ev_is (by walk_at "ev") ?_) fun v1 H4 e4 r1 => hq _ _ (by walk_at "xt") r1
            simp [isRat]
end
end Hk
/-! ## E5 -/
/-! lists of points, comprehensions told by lists -/
namespace Hk
open PySem PySem.Spec PyProof.Rows L2
theorem un65 {k : Nat} {A : Around} (h : Room k A) : A.units + 65 < cLine := by
  have := h.un
  omega
/-! rules with the kit's part told ahead -/
section
variable {X : Cx} {K : PySem.W.Frag}
theorem ix_tupK (h : X.K = K) : IxR X (rIxT K) := h ▸ ix_tup
theorem ix_listK (h : X.K = K) : IxR X (rIxL K) := h ▸ ix_list
theorem ix_seqK (h : X.K = K) : IxR X (rIx K) := h ▸ ix_seq
theorem call_isiK (h : X.K = K) : CallR X (.builtin "isinstance") (rIsi K) := h ▸ call_isi
theorem call_isiTK (h : X.K = K) : CallR X (.builtin "isinstance") (rIsiT K) := h ▸ call_isiT
theorem call_lenK (h : X.K = K) : CallR X (.builtin "len") (rLen K) := h ▸ call_len_seq
theorem op_eqDK (h : X.K = K) (hu : X.A.units + 64 < cLine) : OpR X (compareOp .Eq) (rEqD K) := h ▸ op_eqD hu
theorem op_neDK (h : X.K = K) (hu : X.A.units + 64 < cLine) : OpR X (compareOp .NotEq) (rNeD K) := h ▸ op_neD hu
theorem op_notInDK (h : X.K = K) (hu : X.A.units + 65 < cLine) : OpR X (compareOp .NotIn) (rNotInD K) := h ▸ op_notInD hu
end
theorem givenD_map {α : Type} (L : List α) (q : α → Bool) (g : α → PyData) (f : Nat → Bool) (dd : Nat → PyData) : ∀ n ≤ L.length, (∀ i a, L[i]? = some a → f i = q a ∧ dd i = g a) → givenD n f dd = ((L.take n).filter q).map g
  | 0, _, _ => rfl
  | n + 1, hn, h => by
    have ih := givenD_map L q g f dd n (by omega) h
    have e : L[n]? = some L[n] := List.getElem?_eq_getElem (by omega)
    obtain ⟨h1, h2⟩ := h n _ e
    rw [List.take_succ, e, List.filter_append, List.map_append]
    cases hq : q L[n] with
    | true =>
      rw [givenD_yes (by rw [h1, hq]), ih, h2]
      simp [hq]
    | false =>
      rw [givenD_no (by rw [h1, hq]), ih]
      simp [hq]
theorem givenD_mapL {α : Type} (L : List α) (q : α → Bool) (g : α → PyData) (f : Nat → Bool) (dd : Nat → PyData) (h : ∀ i a, L[i]? = some a → f i = q a ∧ dd i = g a) : givenD L.length f dd = (L.filter q).map g := by
  rw [givenD_map L q g f dd L.length (Nat.le_refl _) h, List.take_length]
def fOf {α : Type} (L : List α) (q : α → Bool) (i : Nat) : Bool := match L[i]? with
  | some a => q a
  | none => false
def dOf {α : Type} (L : List α) (g : α → PyData) (i : Nat) : PyData := match L[i]? with
  | some a => g a
  | none => .none
theorem fOf_get {α : Type} {L : List α} {q : α → Bool} {i : Nat} {a : α} (h : L[i]? = some a) : fOf L q i = q a := by unfold fOf; rw [h]
theorem dOf_get {α : Type} {L : List α} {g : α → PyData} {i : Nat} {a : α} (h : L[i]? = some a) : dOf L g i = g a := by unfold dOf; rw [h]
theorem get_some {α : Type} {L : List α} {i : Nat} (h : i < L.length) : ∃ a, L[i]? = some a := ⟨L[i], List.getElem?_eq_getElem h⟩
section
variable {Z : Wd} {K : PySem.W.Frag} {σ : L2.St} {H : Hp} {ta tb te tl : TE} {t u : TT} {x y z v : V} {R : Rl} {d : PyData} {α : Type}
theorem en_lcTP {j : Nat} {vs : List Nat} {xs : List V} (L : List α) (q : α → Bool) (g : α → PyData) (h : Ev Z tl σ H (IsV v)) (hx : TuR Z xs v H) (hl : xs.length = L.length) (hz : L.length ≤ 40000) (hw : ∀ x, wipe ((wipe σ vs).set j (some x)) vs = wipe σ vs) (hL : ∀ a ∈ L, noL (g a) = true)
    (ht : ∀ (i : Nat) (x : V) (a : α) H1, Xt Z H H1 → xs[i]? = some x → L[i]? = some a → EvT Z t ((wipe σ vs).set j (some x)) H1 (q a)) (he : ∀ (i : Nat) (x : V) (a : α) H1, Xt Z H H1 → xs[i]? = some x → L[i]? = some a → q a = true → Ev Z te ((wipe σ vs).set j (some x)) H1 (DaR Z (g a))) :
    EvN Z (tLc (iTup K tl) (gName j) t te vs) σ H (fun p H2 => Da Z H2 (.ref p) (.list ((L.filter q).map g))) := by
  rw [← givenD_mapL L q g (fOf L q) (dOf L g) fun i a e => ⟨fOf_get e, dOf_get e⟩, ← hl]
  refine en_lcT (fOf L q) (dOf L g) h hx (by omega) hw (fun i hi _ => ?_) (fun i x H1 e hx => ?_) (fun i x H1 e hx hf => ?_)
  · obtain ⟨a, ha⟩ := get_some (hl ▸ hi)
    rw [dOf_get ha]
    exact hL a (List.mem_of_getElem? ha)
  · obtain ⟨a, ha⟩ := get_some (hl ▸ (List.getElem?_eq_some_iff.mp hx).1)
    rw [fOf_get ha]
    exact ht i x a H1 e hx ha
  · obtain ⟨a, ha⟩ := get_some (hl ▸ (List.getElem?_eq_some_iff.mp hx).1)
    rw [fOf_get ha] at hf
    rw [dOf_get ha]
    exact he i x a H1 e hx ha hf
theorem en_lcLP {j : Nat} {vs : List Nat} {xs : List V} {RN : Rl} (L : List α) (q : α → Bool) (g : α → PyData) (h : Ev Z tl σ H RN) (hx : ∀ v H1, Xt Z H H1 → RN v H1 → LiR Z xs v H1) (hl : xs.length = L.length) (hz : L.length ≤ 40000) (hw : ∀ x, wipe ((wipe σ vs).set j (some x)) vs = wipe σ vs) (hL : ∀ a ∈ L, noL (g a) = true)
    (ht : ∀ (i : Nat) (x : V) (a : α) H1, Xt Z H H1 → xs[i]? = some x → L[i]? = some a → EvT Z t ((wipe σ vs).set j (some x)) H1 (q a)) (he : ∀ (i : Nat) (x : V) (a : α) H1, Xt Z H H1 → xs[i]? = some x → L[i]? = some a → q a = true → Ev Z te ((wipe σ vs).set j (some x)) H1 (DaR Z (g a))) :
    EvN Z (tLc (iList K tl) (gName j) t te vs) σ H (fun p H2 => Da Z H2 (.ref p) (.list ((L.filter q).map g))) := by
  rw [← givenD_mapL L q g (fOf L q) (dOf L g) fun i a e => ⟨fOf_get e, dOf_get e⟩, ← hl]
  refine en_lcL (fOf L q) (dOf L g) h hx (by omega) hw (fun i hi _ => ?_) (fun i x H1 e hx => ?_) (fun i x H1 e hx hf => ?_)
  · obtain ⟨a, ha⟩ := get_some (hl ▸ hi)
    rw [dOf_get ha]
    exact hL a (List.mem_of_getElem? ha)
  · obtain ⟨a, ha⟩ := get_some (hl ▸ (List.getElem?_eq_some_iff.mp hx).1)
    rw [fOf_get ha]
    exact ht i x a H1 e hx ha
  · obtain ⟨a, ha⟩ := get_some (hl ▸ (List.getElem?_eq_some_iff.mp hx).1)
    rw [fOf_get ha] at hf
    rw [dOf_get ha]
    exact he i x a H1 e hx ha hf
theorem en_lcRP {ta : TA} {j : Nat} {vs : List Nat} {n : Nat} (q : Nat → Bool) (g : Nat → PyData) (h : EvA Z ta σ H (fun us _ => us = [.int (n : Int)])) (hz : n ≤ 40000) (hw : ∀ x, wipe ((wipe σ vs).set j (some x)) vs = wipe σ vs) (hL : ∀ i, i < n → noL (g i) = true)
    (ht : ∀ (i : Nat) H1, Xt Z H H1 → i < n → EvT Z t ((wipe σ vs).set j (some (.int (i : Int)))) H1 (q i)) (he : ∀ (i : Nat) H1, Xt Z H H1 → i < n → q i = true → Ev Z te ((wipe σ vs).set j (some (.int (i : Int)))) H1 (DaR Z (g i))) :
    EvN Z (tLc (iRng1 ta) (gName j) t te vs) σ H (fun p H2 => Da Z H2 (.ref p) (.list (((List.range n).filter q).map g))) :=
  en_lcR q g h hz hw (fun i hi _ => hL i hi) ht he
theorem filter_yes (L : List α) : L.filter (fun _ => true) = L := List.filter_eq_self.mpr fun _ _ => rfl
/-! points -/
theorem getD {L : List α} {g : α → PyData} {xs : List V} {i : Nat} (h : DaL Z H xs (L.map g)) (hy : xs[i]? = some y) : ∃ a, L[i]? = some a ∧ Da Z H y (g a) := by
  obtain ⟨d, h1, h2⟩ := h.getV hy
  rw [List.getElem?_map] at h1
  cases hL : L[i]? with
  | none => rw [hL] at h1; cases h1
  | some a =>
    rw [hL] at h1
    cases h1
    exact ⟨a, rfl, h2⟩
theorem atD {L : List α} {g : α → PyData} {xs : List V} {i : Nat} {a : α} (h : DaL Z H xs (L.map g)) (ha : L[i]? = some a) : ∃ y, xs[i]? = some y ∧ atI xs (i : Int) = some y ∧ Da Z H y (g a) := by
  obtain ⟨y, h1, h2⟩ := h.get (i := i) (d := g a) (by rw [List.getElem?_map, ha]; rfl)
  exact ⟨y, h1, atI_nat h1, h2⟩
theorem getPt {L : List Pt} {xs : List V} {i : Nat} (h : DaL Z H xs (L.map ptD)) (hy : xs[i]? = some y) : ∃ p, L[i]? = some p ∧ P3 Z y p H := by
  obtain ⟨p, h1, h2⟩ := getD h hy
  exact ⟨p, h1, .of h2⟩
theorem atPt {L : List Pt} {xs : List V} {i : Nat} {p : Pt} (h : DaL Z H xs (L.map ptD)) (ha : L[i]? = some p) : ∃ y, xs[i]? = some y ∧ atI xs (i : Int) = some y ∧ P3 Z y p H := by
  obtain ⟨y, h1, h2, h3⟩ := atD h ha
  exact ⟨y, h1, h2, .of h3⟩
/-- given points -/
structure Pts (L : List Pt) : Prop where
  ok : ∀ p ∈ L, Ok p
  nd : L.Nodup
  l1 : 1 ≤ L.length
  l2 : L.length ≤ 40
theorem pts_noL (L : List Pt) : noLL (L.map ptD) = true := noLL_all fun d hd => by
  obtain ⟨p, _, rfl⟩ := List.mem_map.mp hd
  simp [ptD, noL, noLL]
theorem ptD_noL (p : Pt) : noL (ptD p) = true := by simp [ptD, noL, noLL]
theorem pts_nod (L : List Pt) : nodL (L.map ptD) = true := nodL_all fun d hd => by
  obtain ⟨p, _, rfl⟩ := List.mem_map.mp hd
  exact ptD_nod p
/-- data with no dict, of small depth -/
def sm (n : Nat) (d : PyData) : Prop := d.canLay0 = true ∧ d.depth ≤ n
theorem sm_all : ∀ {ds : List PyData} {n : Nat}, (∀ d ∈ ds, sm n d) → PyData.canLayAll0 ds = true ∧ PyData.depthAll ds ≤ n
  | [], _, _ => by simp [PyData.canLayAll0, PyData.depthAll]
  | d :: ds, n, h => by
    obtain ⟨a, b⟩ := h d (by simp)
    obtain ⟨a2, b2⟩ := sm_all fun e he => h e (List.mem_cons_of_mem _ he)
    simp [PyData.canLayAll0, PyData.depthAll, a, a2]
    omega
theorem sm_tup {ds : List PyData} {n : Nat} (h : ∀ d ∈ ds, sm n d) : sm (n + 1) (.tuple ds) := by
  obtain ⟨a, b⟩ := sm_all h
  exact ⟨by simp [PyData.canLay0, a], by simp [PyData.depth]; omega⟩
theorem sm_lst {ds : List PyData} {n : Nat} (h : ∀ d ∈ ds, sm n d) : sm (n + 1) (.list ds) := by
  obtain ⟨a, b⟩ := sm_all h
  exact ⟨by simp [PyData.canLay0, a], by simp [PyData.depth]; omega⟩
theorem sm_int (n : Nat) (i : Int) : sm n (.int i) := ⟨by simp [PyData.canLay0], by simp [PyData.depth]⟩
theorem sm_bool (n : Nat) (i : Bool) : sm n (.bool i) := ⟨by simp [PyData.canLay0], by simp [PyData.depth]⟩
theorem sm_str (n : Nat) {i : Str} (h : PyData.strOk i = true) : sm n (.str i) := ⟨by simp [PyData.canLay0, h], by simp [PyData.depth]⟩
theorem sm_non (n : Nat) : sm n .none := ⟨by simp [PyData.canLay0], by simp [PyData.depth]⟩
theorem sm.sh {n : Nat} {d : PyData} (h : sm n d) (hn : n ≤ 64) : SeqAt.shaped d = true := by
  unfold SeqAt.shaped
  rw [h.1, Bool.true_and, decide_eq_true_iff]
  exact Nat.le_trans h.2 hn
theorem sm.mono {m n : Nat} {d : PyData} (h : sm m d) (hn : m ≤ n) : sm n d := ⟨h.1, Nat.le_trans h.2 hn⟩
theorem sm_pt (p : Pt) : sm 1 (ptD p) := sm_tup fun d hd => by
  simp only [List.mem_cons, List.not_mem_nil, or_false] at hd
  rcases hd with rfl | rfl | rfl <;> exact sm_int _ _
theorem sm_pts (L : List Pt) : sm 2 (.tuple (L.map ptD)) := sm_tup fun d hd => by
  obtain ⟨p, _, rfl⟩ := List.mem_map.mp hd
  exact sm_pt p
theorem sm_ptsL (L : List Pt) : sm 2 (.list (L.map ptD)) := sm_lst fun d hd => by
  obtain ⟨p, _, rfl⟩ := List.mem_map.mp hd
  exact sm_pt p
theorem any_ptD (L : List Pt) (p : Pt) : ((L.map ptD).any fun z => PyData.eqv z (ptD p)) = decide (p ∈ L) := by
  induction L with
  | nil => simp
  | cons q L ih =>
    rw [List.map_cons, List.any_cons, ih, ptD_eqv]
    by_cases h : q = p
    · subst h; simp
    · have h2 : p ≠ q := fun z => h z.symm
      simp [h, h2]
end
end Hk
/-! ## F5 -/
namespace Hk
open PySem PySem.Spec PyProof.Rows L2
local macro_rules | `(tactic| walk_at "bd") => `(tactic| first
  | assumption
  | exact (show B 64 _ from by unfold B; decide)
  | (refine' B.mul ?b1 ?b2; (case b1 => walk_at "bd"); (case b2 => walk_at "bd"))
  | (refine' B.sub ?b1 ?b2; (case b1 => walk_at "bd"); (case b2 => walk_at "bd"))
  | (refine' B.add ?b1 ?b2; (case b1 => walk_at "bd"); (case b2 => walk_at "bd"))
  | (refine' B.neg ?b1; (case b1 => walk_at "bd")))
local macro_rules | `(tactic| walk_at "da") => `(tactic| first
  | assumption
  | exact Da.int _
  | exact Da.non
  | exact Da.bl _
  | exact Da.str _
  | ((with_reducible refine' P3.mono (by assumption) ?d1); (case d1 => walk_at "da"))
  | ((with_reducible refine' Ra.mono (by assumption) ?d1); (case d1 => walk_at "da"))
  | ((with_reducible refine' TuR.mono (by assumption) ?d1); (case d1 => walk_at "da"))
  | ((with_reducible refine' LiR.mono (by assumption) ?d1); (case d1 => walk_at "da"))
  | ((with_reducible refine' Da.mono (by assumption) ?d1); (case d1 => walk_at "da")))
local macro_rules | `(tactic| walk_at "xt") => `(tactic| first
  | assumption
  | (refine' Xt.trans ?x1 (by assumption); (case x1 => walk_at "xt")))
local macro_rules | `(tactic| walk_at "w") => `(tactic| first
  | assumption
  | exact Xt.w2 (by assumption)
  | exact Xt.w1 (by assumption))
local macro_rules | `(tactic| walk_at "side") => `(tactic| first
  | assumption
  | (refine' B.cmul ?b1 ?b2 ?b3; (case b1 => walk_at "bd"); (case b2 => walk_at "bd"); (case b3 => first | decide | omega))
  | (refine' B.cdiv ?b1 ?b2 ?b3; (case b1 => assumption); (case b2 => walk_at "bd"); (case b3 => first | decide | omega)))
local macro_rules | `(tactic| walk_at "ea") => `(tactic| first
  | with_reducible exact ea_nil
  | ((with_reducible refine' ea_cons ?p1 ?p2); (case p1 => walk_at "ev"); (case p2 => walk_at "ea")))
local macro_rules | `(tactic| walk_at "et") => `(tactic| first
  | ((with_reducible refine' et_and ?p1 ?p2); (case p1 => walk_at "et"); (case p2 => intro _; walk_at "et"))
  | ((with_reducible refine' et_or ?p1 ?p2); (case p1 => walk_at "et"); (case p2 => intro _; walk_at "et"))
  | ((with_reducible refine' et_not ?p1); (case p1 => walk_at "et"))
  | ((with_reducible refine' et_test ?p1); (case p1 => walk_at "ev"))
  | ((with_reducible refine' et_B ?p1); (case p1 => walk_at "ev")))
local macro_rules | `(tactic| walk_at "ev") => `(tactic| first
  | with_reducible exact ev_c
  | ((with_reducible refine' ev_var ?v1); (case v1 => exact rfl))
  | ((with_reducible refine' ev_px ?p1 ?p2 ?p3); (case p1 => walk_at "ev"); (case p2 => walk_at "da"); (case p3 => with_reducible exact ev_c))
  | ((with_reducible refine' ev_py ?p1 ?p2 ?p3); (case p1 => walk_at "ev"); (case p2 => walk_at "da"); (case p3 => with_reducible exact ev_c))
  | ((with_reducible refine' ev_pw ?p1 ?p2 ?p3); (case p1 => walk_at "ev"); (case p2 => walk_at "da"); (case p3 => with_reducible exact ev_c))
  | ((with_reducible refine' ev_ixT ?p1 ?p2 ?p3 ?p4); (case p1 => walk_at "ev"); (case p2 => walk_at "da"); (case p3 => walk_at "ev"); (case p4 => first | exact rfl | assumption))
  | ((with_reducible refine' ev_ixL ?p1 ?p2 ?p3 ?p4); (case p1 => walk_at "ev"); (case p2 => walk_at "da"); (case p3 => walk_at "ev"); (case p4 => first | exact rfl | assumption))
  | ((with_reducible refine' ev_i0 ?p1 ?p2); (case p1 => walk_at "ev"); (case p2 => walk_at "ev"))
  | ((with_reducible refine' ev_iC ?p1 ?p2 ?p3); (case p1 => walk_at "ev"); (case p2 => walk_at "ev"); (case p3 => walk_at "side"))
  | ((with_reducible refine' ev_neg ?p1); (case p1 => walk_at "ev"))
  | ((with_reducible refine' ev_eq ?p1 ?p2 ?p3); (case p1 => walk_at "ev"); (case p2 => walk_at "ev"); (case p3 => exact rfl))
  | ((with_reducible refine' ev_ne ?p1 ?p2 ?p3); (case p1 => walk_at "ev"); (case p2 => walk_at "ev"); (case p3 => exact rfl))
  | ((with_reducible refine' ev_andV ?p1 ?p2); (case p1 => walk_at "ev"); (case p2 => intro _; walk_at "ev"))
  | ((with_reducible refine' ev_orV ?p1 ?p2); (case p1 => walk_at "ev"); (case p2 => intro _; walk_at "ev"))
  | ((with_reducible refine' ev_notV ?p1); (case p1 => walk_at "ev"))
  | ((with_reducible refine' ev_subB ?p1 ?p2); (case p1 => walk_at "ev"); (case p2 => walk_at "ev"))
  | ((with_reducible refine' ev_chI ?p1 ?p2 ?p3); (case p1 => walk_at "ev"); (case p2 => walk_at "ev"); (case p3 => walk_at "ev"))
  | ((with_reducible refine' ev_isInt ?p1 ?p2); (case p1 => walk_at "ev"); (case p2 => walk_at "da"))
  | ((with_reducible refine' ev_isBool ?p1 ?p2); (case p1 => walk_at "ev"); (case p2 => walk_at "da"))
  | ((with_reducible refine' ev_isStr ?p1 ?p2); (case p1 => walk_at "ev"); (case p2 => walk_at "da"))
  | ((with_reducible refine' ev_isTup ?p1 ?p2); (case p1 => walk_at "ev"); (case p2 => walk_at "da"))
  | ((with_reducible refine' ev_isLst ?p1 ?p2); (case p1 => walk_at "ev"); (case p2 => walk_at "da"))
  | ((with_reducible refine' ev_isTL ?p1 ?p2); (case p1 => walk_at "ev"); (case p2 => walk_at "da"))
  | ((with_reducible refine' ev_lenT ?p1 ?p2); (case p1 => walk_at "ev"); (case p2 => walk_at "da"))
  | ((with_reducible refine' ev_lenL ?p1 ?p2); (case p1 => walk_at "ev"); (case p2 => walk_at "da"))
  | ((with_reducible refine' ev_abs ?p1); (case p1 => walk_at "ev"))
  | ((with_reducible refine' ev_min2 ?p1 ?p2); (case p1 => walk_at "ev"); (case p2 => walk_at "ev"))
  | ((with_reducible refine' ev_int1 ?p1); (case p1 => walk_at "ev"))
  | ((with_reducible refine' ev_isN ?p1); (case p1 => walk_at "ev"))
  | ((with_reducible refine' ev_notN ?p1); (case p1 => walk_at "ev"))
  | ((with_reducible refine' ev_sign ?p1); (case p1 => walk_at "ev"))
  | ((with_reducible refine' ev_gcd ?p1 ?p2); (case p1 => walk_at "ev"); (case p2 => walk_at "ev"))
  | ((with_reducible refine' ev_is_in ?p1 ?p2 ?p3 ?p4); (case p1 => walk_at "ev"); (case p2 => walk_at "da"); (case p3 => walk_at "ev"); (case p4 => walk_at "ev"))
  | ((with_reducible refine' ev_doubled ?p1 ?p2 ?p3 ?p4 ?p5 ?p6 ?p7 ?p8 ?p9); (case p1 => walk_at "ev"); (case p2 => walk_at "ev"); (case p3 => walk_at "ev"); (case p4 => walk_at "da"); (case p5 => walk_at "da"); (case p6 => walk_at "da"); (case p7 => assumption); (case p8 => assumption); (case p9 => assumption))
  | ((with_reducible refine' ev_order_of ?p1 ?p2 ?p3 ?p4 ?p5 ?p6); (case p1 => walk_at "ev"); (case p2 => walk_at "ev"); (case p3 => walk_at "da"); (case p4 => walk_at "da"); (case p5 => assumption); (case p6 => assumption))
  | ((with_reducible refine' ev_turn_of ?p1 ?p2 ?p3 ?p4 ?p5 ?p6 ?p7 ?p8 ?p9); (case p1 => walk_at "ev"); (case p2 => walk_at "ev"); (case p3 => walk_at "ev"); (case p4 => walk_at "da"); (case p5 => walk_at "da"); (case p6 => walk_at "da"); (case p7 => assumption); (case p8 => assumption); (case p9 => assumption))
  | ((with_reducible refine' ev_is_between ?p1 ?p2 ?p3 ?p4 ?p5 ?p6 ?p7 ?p8 ?p9); (case p1 => walk_at "ev"); (case p2 => walk_at "ev"); (case p3 => walk_at "ev"); (case p4 => walk_at "da"); (case p5 => walk_at "da"); (case p6 => walk_at "da"); (case p7 => assumption); (case p8 => assumption); (case p9 => assumption)))
section
variable {P : Program} {w : World} {K : PySem.W.Frag} {mg : Str → Option Value} {base : Heap}
/-! is_point, at points -/
theorem isIn_x {p : Pt} (h : Ok p) : isIn (.int p.x) (-1000000000000) 1000000000000 = true := by
  have h1 := h.x
  unfold LG at h1
  simp [isIn]
  omega
theorem isIn_y {p : Pt} (h : Ok p) : isIn (.int p.y) (-1000000000000) 1000000000000 = true := by
  have h1 := h.y
  unfold LG at h1
  simp [isIn]
  omega
theorem isIn_w {p : Pt} (h : Ok p) : isIn (.int p.w) 1 1000000000000 = true := by
  have h1 := h.w
  unfold LG at h1
  simp [isIn]
  omega
def G_is_point : Gv := fun Z vs H R => ∃ v p, vs = [v] ∧ P3 Z v p H ∧ Ok p ∧ R = IsV (.bl true)
theorem ok_is_point (T : Tx K mg) : FnOk P w K mg base CX0 2 T.f_is_point T.d_is_point ["value"] (spOf G_is_point) := by
  refine T.F_is_point.ok sc_is_point (fun vs H Q E h => ?_) (fun cdv A outer s H vs Q E hr h => ?_)
  · obtain ⟨Z, R, _, ⟨v, d, rfl, _⟩, _⟩ := h
    rfl
  obtain ⟨Z, R, hw, ⟨v, p, rfl, hp, ho, rfl⟩, hq⟩ := h
  refine ⟨_, (pss_cons (ps_if (PW.pt (pw_or (pt_not (pt_val (pe_callB call_isi (by rfl) T.z_isinstance (by decide +kernel) (pa_cons (pv 0) (pa_cons (pe_bltn (v := .ty "tuple") (u := .type "tuple") (by rfl) T.z_tuple (by decide +kernel) rfl) pa_nil))))) (pw_or1 (pt_cmpR op_ne (pe_callB call_len_seq (by rfl) T.z_len (by decide +kernel) (pa_cons (pv 0) pa_nil)) pe_int (nomark _)))))
  (pss_one (ps_ret pe_bl))
  pss_nil)
  (pss_cons (ps_if (PW.pt (pw_or (pt_not (pt_val (pe_call (ok_is_in T) (hr.mono (by decide)) (by rfl) T.g_is_in T.F_is_in.kp T.b_is_in .nil pass0 (pa_cons (pe_ix ix_tup (pv 0) pe_int (fun _ _ => rfl)) (pa_cons (pe_un un_neg (pe_glob (v := .int 1000000000000) (by rfl) T.m_LARGEST ⟨_, rfl⟩)) (pa_cons (pe_glob (v := .int 1000000000000) (by rfl) T.m_LARGEST ⟨_, rfl⟩) pa_nil)))))) (pw_or1 (pt_not (pt_val (pe_call (ok_is_in T) (hr.mono (by decide)) (by rfl) T.g_is_in T.F_is_in.kp T.b_is_in .nil pass0 (pa_cons (pe_ix ix_tup (pv 0) pe_int (fun _ _ => rfl)) (pa_cons (pe_un un_neg (pe_glob (v := .int 1000000000000) (by rfl) T.m_LARGEST ⟨_, rfl⟩)) (pa_cons (pe_glob (v := .int 1000000000000) (by rfl) T.m_LARGEST ⟨_, rfl⟩) pa_nil)))))))))
  (pss_one (ps_ret pe_bl))
  pss_nil)
  (pss_one (ps_ret (pe_and (pe_call (ok_is_in T) (hr.mono (by decide)) (by rfl) T.g_is_in T.F_is_in.kp T.b_is_in .nil pass0 (pa_cons (pe_ix ix_tup (pv 0) pe_int (fun _ _ => rfl)) (pa_cons pe_int (pa_cons (pe_glob (v := .int 1000000000000) (by rfl) T.m_LARGEST ⟨_, rfl⟩) pa_nil)))) (pe_one (pe_cmpR op_eq (pe_call (ok_gcd T) (hr.mono (by decide)) (by rfl) T.g_gcd T.F_gcd.kp T.b_gcd .nil pass0 (pa_cons (pe_call (ok_gcd T) (hr.mono (by decide)) (by rfl) T.g_gcd T.F_gcd.kp T.b_gcd .nil pass0 (pa_cons (pe_ix ix_tup (pv 0) pe_int (fun _ _ => rfl)) (pa_cons (pe_ix ix_tup (pv 0) pe_int (fun _ _ => rfl)) pa_nil))) (pa_cons (pe_ix ix_tup (pv 0) pe_int (fun _ _ => rfl)) pa_nil))) pe_int (nomark _)))))))), ?_⟩
  rw [show L2.start nm_is_point [v] = [some v] from rfl]
  have hd := hp.da
  refine q_when (Z := Z) (b := false) (by walk_at "w") (et_is (by walk_at "et") (by simp [ptD, isT])) (fun hb => by cases hb) (fun _ H1 e1 => ?_)
  refine q_when (Z := Z) (b := false) (by walk_at "w") (et_is (by walk_at "et") (by rw [isIn_x ho, isIn_y ho]; rfl)) (fun hb => by cases hb) (fun _ H2 e2 => ?_)
  refine s_ret (Z := Z) (R := IsV (.bl true)) (by walk_at "w") (ev_is (by walk_at "ev") ?_) fun v1 H3 e3 r1 => hq _ _ (by walk_at "xt") r1
  rw [isIn_w ho, ho.g]
  rfl
section
variable {Z : Wd} {σ : L2.St} {H : Hp} {ta tb tc : TE} {E : XK}
theorem ev_is_point {v : V} {p : Pt} (h1 : Ev Z ta σ H (IsV v)) (hp : P3 Z v p H) (ho : Ok p) : Ev Z (tCall (spOf G_is_point) [] E (tCons ta tNil)) σ H (IsV (.bl true)) :=
  ev_call (ea_cons h1 ea_nil) fun H1 e => ⟨v, p, rfl, hp.mono e, ho, rfl⟩
end
def G_need_point : Gv := fun Z vs H R => ∃ v p, vs = [v] ∧ P3 Z v p H ∧ Ok p ∧ R = IsV .non
theorem ok_need_point (T : Tx K mg) : FnOk P w K mg base CX0 3 T.f_need_point T.d_need_point ["value"] (spOf G_need_point) := by
  refine T.F_need_point.ok sc_need_point (fun vs H Q E h => ?_) (fun cdv A outer s H vs Q E hr h => ?_)
  · obtain ⟨Z, R, _, ⟨v, d, rfl, _⟩, _⟩ := h
    rfl
  obtain ⟨Z, R, hw, ⟨v, p, rfl, hp, ho, rfl⟩, hq⟩ := h
  refine ⟨_, (pss_one (ps_if (pt_not (pt_val (pe_call (ok_is_point T) (hr.mono (by decide)) (by rfl) T.g_is_point T.F_is_point.kp T.b_is_point .nil pass0 (pa_cons (pv 0) pa_nil))))
  (pss_one (ps_never))
  pss_nil)), ?_⟩
  rw [show L2.start nm_need_point [v] = [some v] from rfl]
  exact s_when (Z := Z) (by walk_at "w") (et_not (et_test (ev_is_point (by walk_at "ev") hp ho))) (fun hb => by cases hb) (fun _ H1 e1 => hq _ _ (by walk_at "xt") rfl)
def G_need_points : Gv := fun Z vs H R => ∃ v L, vs = [v] ∧ Da Z H v (.tuple (L.map ptD)) ∧ Pts L ∧ R = IsV .non
theorem ok_need_points (T : Tx K mg) : FnOk P w K mg base CX0 3 T.f_need_points T.d_need_points ["value"] (spOf G_need_points) := by
  refine T.F_need_points.ok sc_need_points (fun vs H Q E h => ?_) (fun cdv A outer s H vs Q E hr h => ?_)
  · obtain ⟨Z, R, _, ⟨v, d, rfl, _⟩, _⟩ := h
    rfl
  obtain ⟨Z, R, hw, ⟨v, L, rfl, hd, hL, rfl⟩, hq⟩ := h
  refine ⟨_, (pss_cons (ps_if (PW.pt (pw_or (pt_not (pt_val (pe_callB call_isi (by rfl) T.z_isinstance (by decide +kernel) (pa_cons (pv 0) (pa_cons (pe_bltn (v := .ty "tuple") (u := .type "tuple") (by rfl) T.z_tuple (by decide +kernel) rfl) pa_nil))))) (pw_or1 (pt_not (pt_chain op_le op_le pe_int (pe_callB call_len_seq (by rfl) T.z_len (by decide +kernel) (pa_cons (pv 0) pa_nil)) (pe_glob (v := .int 40) (by rfl) T.m_MOST_POINTS ⟨_, rfl⟩))))))
  (pss_one (ps_never))
  pss_nil)
  (pss_one (ps_for PassesOwn.never rfl (pi_range1 (by rfl) T.z_range (pa_cons (pe_callB call_len_seq (by rfl) T.z_len (by decide +kernel) (pa_cons (pv 0) pa_nil)) pa_nil)) (pg_name (i := 1) sc_need_points.nd rfl (Or.inl rfl))
  (pss_one (ps_if (PW.pt (pw_or (pt_not (pt_val (pe_call (ok_is_point T) (hr.mono (by decide)) (by rfl) T.g_is_point T.F_is_point.kp T.b_is_point .nil pass0 (pa_cons (pe_ix ix_tup (pv 0) (pv 1) (fun _ _ => rfl)) pa_nil)))) (pw_or1 (pt_cmpR (op_inTD (un65 hr)) (pe_ix ix_tup (pv 0) (pv 1) (fun _ _ => rfl)) (pe_slice sl_tupA (pv 0) po_none (po_some (pv 1))) (by rfl)))))
    (pss_one (ps_never))
    pss_nil))))), ?_⟩
  rw [show L2.start nm_need_points [v] = [some v, none] from rfl]
  obtain ⟨xs, hx, hxs⟩ := hd.tupE
  have hlen : xs.length = L.length := by rw [hxs.length, List.length_map]
  have l1 := hL.l1
  have l2 := hL.l2
  refine q_when (Z := Z) (b := false) (by walk_at "w") (et_is (et_or (et_not (et_B (by walk_at "ev"))) fun _ => et_not (et_test (ev_chI ev_c (by walk_at "ev") ev_c))) ?_) (fun hb => by cases hb) (fun _ H1 e1 => ?_)
  · have h1 : (1 : Int) ≤ (xs.length : Int) := by omega
    have h2 : (xs.length : Int) ≤ 40 := by omega
    simp [isT, h1, h2]
  refine s_forR1 (Z := Z) (n := (xs.length : Int)) (by walk_at "w") (ea_cons (by walk_at "ev") ea_nil) ⟨by omega, by omega⟩ (fun i σ' H' => ∃ y, σ' = [some v, y] ∧ Xt Z H H') (fun H2 e2 => ⟨none, rfl, by walk_at "xt"⟩) (fun i σ' H' hi ⟨y, es, e2⟩ => ?_) (fun σ' H' ⟨y, es, e2⟩ => hq _ _ e2 rfl)
  subst es
  obtain ⟨p, hp⟩ := get_some (L := L) (i := i) (by omega)
  obtain ⟨y1, hy1, hi1, hp1⟩ := atPt hxs hp
  have hpo := hL.ok p (List.mem_of_getElem? hp)
  show tIfS _ _ _ _ [some v, some (.int (i : Int))] H'
  have hp2 := hp1.mono e2
  refine s_when (Z := Z) (b := false) (by walk_at "w") (et_is (a := (!true || decide (p ∈ L.take i))) (et_or (et_not (et_B (ev_is_point (by walk_at "ev") hp2 hpo))) fun _ => et_test ?_) ?_) (fun hb => by cases hb) (fun _ H3 e3 => ⟨_, rfl, by walk_at "xt"⟩)
  · refine ev_is (ev_inTD (ds := (L.take i).map ptD) (ev_da (by walk_at "ev") hp2.da) ?_ (ptD_nod p) (pts_nod _) (ptD_sh p) ((sm_pts _).sh (by decide))) (by rw [any_ptD])
    refine Ev.imp (ev_slT (lo := none) (hi := some (i : Int)) (by walk_at "ev") (hx.mono e2) eo_none (eo_some (by walk_at "ev"))) fun w H4 e4 hw4 => ?_
    rw [cut_front _ _ (by omega)] at hw4
    refine hw4.da ?_
    rw [List.map_take]
    exact (hxs.take i).mono (by walk_at "xt")
  · have : p ∉ L.take i := fun hm => by
      obtain ⟨j, hj⟩ := List.getElem?_of_mem hm
      have hj0 := (List.getElem?_eq_some_iff.mp hj).1
      rw [List.length_take] at hj0
      rw [List.getElem?_take_of_lt (by omega)] at hj
      have := (List.getElem?_inj (i := j) (j := i) (by omega) hL.nd).mp (hj.trans hp.symm)
      omega
    simp [this]
section
variable {Z : Wd} {σ : L2.St} {H : Hp} {ta tb tc : TE} {E : XK}
theorem ev_need_points {v : V} {L : List Pt} (h1 : Ev Z ta σ H (IsV v)) (hp : Da Z H v (.tuple (L.map ptD))) (ho : Pts L) : Ev Z (tCall (spOf G_need_points) [] E (tCons ta tNil)) σ H (IsV .non) :=
  ev_call (ea_cons h1 ea_nil) fun H1 e => ⟨v, L, rfl, hp.mono e, ho, rfl⟩
theorem ev_need_point {v : V} {p : Pt} (h1 : Ev Z ta σ H (IsV v)) (hp : P3 Z v p H) (ho : Ok p) : Ev Z (tCall (spOf G_need_point) [] E (tCons ta tNil)) σ H (IsV .non) :=
  ev_call (ea_cons h1 ea_nil) fun H1 e => ⟨v, p, rfl, hp.mono e, ho, rfl⟩
end
end
end Hk
/-! ## F6 -/
namespace Hk
open PySem PySem.Spec PyProof.Rows L2
local macro_rules | `(tactic| walk_at "bd") => `(tactic| first
  | assumption
  | exact (show B 64 _ from by unfold B; decide)
  | (refine' B.mul ?b1 ?b2; (case b1 => walk_at "bd"); (case b2 => walk_at "bd"))
  | (refine' B.sub ?b1 ?b2; (case b1 => walk_at "bd"); (case b2 => walk_at "bd"))
  | (refine' B.add ?b1 ?b2; (case b1 => walk_at "bd"); (case b2 => walk_at "bd"))
  | (refine' B.neg ?b1; (case b1 => walk_at "bd")))
local macro_rules | `(tactic| walk_at "da") => `(tactic| first
  | assumption
  | exact Da.int _
  | exact Da.non
  | exact Da.bl _
  | exact Da.str _
  | ((with_reducible refine' P3.mono (by assumption) ?d1); (case d1 => walk_at "da"))
  | ((with_reducible refine' Ra.mono (by assumption) ?d1); (case d1 => walk_at "da"))
  | ((with_reducible refine' TuR.mono (by assumption) ?d1); (case d1 => walk_at "da"))
  | ((with_reducible refine' LiR.mono (by assumption) ?d1); (case d1 => walk_at "da"))
  | ((with_reducible refine' Da.mono (by assumption) ?d1); (case d1 => walk_at "da")))
local macro_rules | `(tactic| walk_at "xt") => `(tactic| first
  | assumption
  | (refine' Xt.trans ?x1 (by assumption); (case x1 => walk_at "xt")))
local macro_rules | `(tactic| walk_at "w") => `(tactic| first
  | assumption
  | exact Xt.w2 (by assumption)
  | exact Xt.w1 (by assumption))
local macro_rules | `(tactic| walk_at "side") => `(tactic| first
  | assumption
  | (refine' B.cmul ?b1 ?b2 ?b3; (case b1 => walk_at "bd"); (case b2 => walk_at "bd"); (case b3 => first | decide | omega))
  | (refine' B.cdiv ?b1 ?b2 ?b3; (case b1 => assumption); (case b2 => walk_at "bd"); (case b3 => first | decide | omega)))
local macro_rules | `(tactic| walk_at "ea") => `(tactic| first
  | with_reducible exact ea_nil
  | ((with_reducible refine' ea_cons ?p1 ?p2); (case p1 => walk_at "ev"); (case p2 => walk_at "ea")))
local macro_rules | `(tactic| walk_at "et") => `(tactic| first
  | ((with_reducible refine' et_and ?p1 ?p2); (case p1 => walk_at "et"); (case p2 => intro _; walk_at "et"))
  | ((with_reducible refine' et_or ?p1 ?p2); (case p1 => walk_at "et"); (case p2 => intro _; walk_at "et"))
  | ((with_reducible refine' et_not ?p1); (case p1 => walk_at "et"))
  | ((with_reducible refine' et_test ?p1); (case p1 => walk_at "ev"))
  | ((with_reducible refine' et_B ?p1); (case p1 => walk_at "ev")))
local macro_rules | `(tactic| walk_at "ev") => `(tactic| first
  | with_reducible exact ev_c
  | ((with_reducible refine' ev_var ?v1); (case v1 => exact rfl))
  | ((with_reducible refine' ev_px ?p1 ?p2 ?p3); (case p1 => walk_at "ev"); (case p2 => walk_at "da"); (case p3 => with_reducible exact ev_c))
  | ((with_reducible refine' ev_py ?p1 ?p2 ?p3); (case p1 => walk_at "ev"); (case p2 => walk_at "da"); (case p3 => with_reducible exact ev_c))
  | ((with_reducible refine' ev_pw ?p1 ?p2 ?p3); (case p1 => walk_at "ev"); (case p2 => walk_at "da"); (case p3 => with_reducible exact ev_c))
  | ((with_reducible refine' ev_ixT ?p1 ?p2 ?p3 ?p4); (case p1 => walk_at "ev"); (case p2 => walk_at "da"); (case p3 => walk_at "ev"); (case p4 => first | exact rfl | assumption))
  | ((with_reducible refine' ev_ixL ?p1 ?p2 ?p3 ?p4); (case p1 => walk_at "ev"); (case p2 => walk_at "da"); (case p3 => walk_at "ev"); (case p4 => first | exact rfl | assumption))
  | ((with_reducible refine' ev_i0 ?p1 ?p2); (case p1 => walk_at "ev"); (case p2 => walk_at "ev"))
  | ((with_reducible refine' ev_iC ?p1 ?p2 ?p3); (case p1 => walk_at "ev"); (case p2 => walk_at "ev"); (case p3 => walk_at "side"))
  | ((with_reducible refine' ev_neg ?p1); (case p1 => walk_at "ev"))
  | ((with_reducible refine' ev_eq ?p1 ?p2 ?p3); (case p1 => walk_at "ev"); (case p2 => walk_at "ev"); (case p3 => exact rfl))
  | ((with_reducible refine' ev_ne ?p1 ?p2 ?p3); (case p1 => walk_at "ev"); (case p2 => walk_at "ev"); (case p3 => exact rfl))
  | ((with_reducible refine' ev_andV ?p1 ?p2); (case p1 => walk_at "ev"); (case p2 => intro _; walk_at "ev"))
  | ((with_reducible refine' ev_orV ?p1 ?p2); (case p1 => walk_at "ev"); (case p2 => intro _; walk_at "ev"))
  | ((with_reducible refine' ev_notV ?p1); (case p1 => walk_at "ev"))
  | ((with_reducible refine' ev_subB ?p1 ?p2); (case p1 => walk_at "ev"); (case p2 => walk_at "ev"))
  | ((with_reducible refine' ev_chI ?p1 ?p2 ?p3); (case p1 => walk_at "ev"); (case p2 => walk_at "ev"); (case p3 => walk_at "ev"))
  | ((with_reducible refine' ev_isInt ?p1 ?p2); (case p1 => walk_at "ev"); (case p2 => walk_at "da"))
  | ((with_reducible refine' ev_isBool ?p1 ?p2); (case p1 => walk_at "ev"); (case p2 => walk_at "da"))
  | ((with_reducible refine' ev_isStr ?p1 ?p2); (case p1 => walk_at "ev"); (case p2 => walk_at "da"))
  | ((with_reducible refine' ev_isTup ?p1 ?p2); (case p1 => walk_at "ev"); (case p2 => walk_at "da"))
  | ((with_reducible refine' ev_isLst ?p1 ?p2); (case p1 => walk_at "ev"); (case p2 => walk_at "da"))
  | ((with_reducible refine' ev_isTL ?p1 ?p2); (case p1 => walk_at "ev"); (case p2 => walk_at "da"))
  | ((with_reducible refine' ev_lenT ?p1 ?p2); (case p1 => walk_at "ev"); (case p2 => walk_at "da"))
  | ((with_reducible refine' ev_lenL ?p1 ?p2); (case p1 => walk_at "ev"); (case p2 => walk_at "da"))
  | ((with_reducible refine' ev_abs ?p1); (case p1 => walk_at "ev"))
  | ((with_reducible refine' ev_min2 ?p1 ?p2); (case p1 => walk_at "ev"); (case p2 => walk_at "ev"))
  | ((with_reducible refine' ev_int1 ?p1); (case p1 => walk_at "ev"))
  | ((with_reducible refine' ev_isN ?p1); (case p1 => walk_at "ev"))
  | ((with_reducible refine' ev_notN ?p1); (case p1 => walk_at "ev"))
  | ((with_reducible refine' ev_sign ?p1); (case p1 => walk_at "ev"))
  | ((with_reducible refine' ev_gcd ?p1 ?p2); (case p1 => walk_at "ev"); (case p2 => walk_at "ev"))
  | ((with_reducible refine' ev_is_in ?p1 ?p2 ?p3 ?p4); (case p1 => walk_at "ev"); (case p2 => walk_at "da"); (case p3 => walk_at "ev"); (case p4 => walk_at "ev"))
  | ((with_reducible refine' ev_doubled ?p1 ?p2 ?p3 ?p4 ?p5 ?p6 ?p7 ?p8 ?p9); (case p1 => walk_at "ev"); (case p2 => walk_at "ev"); (case p3 => walk_at "ev"); (case p4 => walk_at "da"); (case p5 => walk_at "da"); (case p6 => walk_at "da"); (case p7 => assumption); (case p8 => assumption); (case p9 => assumption))
  | ((with_reducible refine' ev_order_of ?p1 ?p2 ?p3 ?p4 ?p5 ?p6); (case p1 => walk_at "ev"); (case p2 => walk_at "ev"); (case p3 => walk_at "da"); (case p4 => walk_at "da"); (case p5 => assumption); (case p6 => assumption))
  | ((with_reducible refine' ev_turn_of ?p1 ?p2 ?p3 ?p4 ?p5 ?p6 ?p7 ?p8 ?p9); (case p1 => walk_at "ev"); (case p2 => walk_at "ev"); (case p3 => walk_at "ev"); (case p4 => walk_at "da"); (case p5 => walk_at "da"); (case p6 => walk_at "da"); (case p7 => assumption); (case p8 => assumption); (case p9 => assumption))
  | ((with_reducible refine' ev_is_between ?p1 ?p2 ?p3 ?p4 ?p5 ?p6 ?p7 ?p8 ?p9); (case p1 => walk_at "ev"); (case p2 => walk_at "ev"); (case p3 => walk_at "ev"); (case p4 => walk_at "da"); (case p5 => walk_at "da"); (case p6 => walk_at "da"); (case p7 => assumption); (case p8 => assumption); (case p9 => assumption)))
section
variable {P : Program} {w : World} {K : PySem.W.Frag} {mg : Str → Option Value} {base : Heap}
/-! common_weight -/
def G_common_weight : Gv := fun Z vs H R => ∃ v L, vs = [v] ∧ Da Z H v (.tuple (L.map ptD)) ∧ (∀ p ∈ L, Nm p) ∧ L.length ≤ 40 ∧ R = IsV (.int (cw L))
theorem cw_snoc (L : List Pt) (p : Pt) : cw (L ++ [p]) = cwF (cw L) p.w := by
  unfold cw
  rw [List.foldl_append]
  rfl
theorem cw_B {L : List Pt} (h : ∀ p ∈ L, Nm p) : ∀ i ≤ L.length, B (64 * i + 1) (cw (L.take i)) ∧ 0 < cw (L.take i)
  | 0, _ => ⟨by unfold B cw; simp, by unfold cw; simp⟩
  | i + 1, hi => by
    obtain ⟨b, p⟩ := cw_B h i (by omega)
    have e : L[i]? = some L[i] := List.getElem?_eq_getElem (by omega)
    have hn := h L[i] (List.getElem_mem _)
    rw [List.take_succ, e]
    show B _ (cw (L.take i ++ [L[i]])) ∧ 0 < cw (L.take i ++ [L[i]])
    rw [cw_snoc]
    obtain ⟨k1, _, _, k4⟩ := cwF_ok p hn.p
    refine ⟨?_, k1⟩
    have hb := b.mul hn.w
    exact (hb.ofLe (by omega)).mono (by omega)
theorem cw_B40 {L : List Pt} (h : ∀ p ∈ L, Nm p) (hl : L.length ≤ 40) : B 2600 (cw L) := by
  have := (cw_B h L.length (Nat.le_refl _)).1
  rw [List.take_length] at this
  exact this.mono (by omega)
theorem fdiv_B {n : Nat} {f g : Int} (h : B n f) (hf : 0 < f) (hg : 0 < g) (hd : g ∣ f) : B n (f.fdiv g) := by
  refine h.ofLe ?_
  rw [Int.fdiv_eq_ediv_of_dvd hd]
  exact Int.natAbs_ediv_le_natAbs f g
theorem ok_common_weight (T : Tx K mg) : FnOk P w K mg base CX0 2 T.f_common_weight T.d_common_weight ["points"] (spOf G_common_weight) := by
  refine T.F_common_weight.ok sc_common_weight (fun vs H Q E h => ?_) (fun cdv A outer s H vs Q E hr h => ?_)
  · obtain ⟨Z, R, _, ⟨v, d, rfl, _⟩, _⟩ := h
    rfl
  obtain ⟨Z, R, hw, ⟨v, L, rfl, hd, hL, hl, rfl⟩, hq⟩ := h
  refine ⟨_, (pss_cons (ps_set (i := 1) sc_common_weight.nd rfl (Or.inl rfl) pe_int)
  (pss_cons (ps_for PassesOwn.never rfl (pi_tup (pv 0)) (pg_name (i := 2) sc_common_weight.nd rfl (Or.inl rfl))
  (pss_one (ps_set (i := 1) sc_common_weight.nd rfl (Or.inl rfl) (pe_op op_mulW (pe_op op_fdivA (pv 1) (pe_call (ok_gcd T) (hr.mono (by decide)) (by rfl) T.g_gcd T.F_gcd.kp T.b_gcd .nil pass0 (pa_cons (pv 1) (pa_cons (pe_ix ix_tup (pv 2) pe_int (fun _ _ => rfl)) pa_nil)))) (pe_ix ix_tup (pv 2) pe_int (fun _ _ => rfl))))))
  (pss_one (ps_ret (pv 1))))), ?_⟩
  rw [show L2.start nm_common_weight [v] = [some v, none, none] from rfl]
  obtain ⟨xs, hx, hxs⟩ := hd.tupE
  have hlen : xs.length = L.length := by rw [hxs.length, List.length_map]
  refine q_asg (Z := Z) (by walk_at "w") (by walk_at "ev") fun v1 H1 e1 r1 => ?_
  subst r1
  refine q_forT (Z := Z) (by walk_at "w") (by walk_at "ev") (hx.mono e1) (fun i σ' H' => ∃ y, σ' = [some v, some (.int (cw (L.take i))), y] ∧ Xt Z H H') (fun H2 e2 => ⟨none, rfl, by walk_at "xt"⟩) (fun i σ' H' ⟨y, _, e2⟩ => hx.mono e2) (fun i y σ' H' hy ⟨y0, es, e2⟩ => ?_) (fun σ' H' ⟨y0, es, e2⟩ => ?_)
  · subst es
    obtain ⟨p, hp, py⟩ := getPt hxs hy
    have hi : i < L.length := (List.getElem?_eq_some_iff.mp hp).1
    have hn := hL p (List.mem_of_getElem? hp)
    obtain ⟨b1, p1⟩ := cw_B hL i (by omega)
    have wb := hn.w
    have wp := hn.p
    show tAsg _ _ _ [some v, some (.int (cw (L.take i))), some y] H'
    have gp := gcd_pos (a := cw (L.take i)) (b := p.w) (by omega)
    have gb : B 64 (gcdI (cw (L.take i)) p.w) := wb.gcdr _ (by omega)
    have fb := fdiv_B b1 p1 gp (gcd_dl _ _)
    refine s_asg (Z := Z) (by walk_at "w") (ev_iC (ev_iC (by walk_at "ev") (by walk_at "ev") (B.cdiv (by omega) gb (by decide))) (by walk_at "ev") (B.cmul fb wb (by omega))) fun v1 H3 e3 r1 => ?_
    subst r1
    refine ⟨some y, ?_, by walk_at "xt"⟩
    rw [List.take_succ, hp]
    show _ = [some v, some (.int (cw (L.take i ++ [p]))), some y]
    rw [cw_snoc]
    rfl
  · subst es
    rw [hlen, List.take_length]
    exact s_ret (Z := Z) (by walk_at "w") (by walk_at "ev") fun v1 H3 e3 r1 => hq _ _ (by walk_at "xt") r1
section
variable {Z : Wd} {σ : L2.St} {H : Hp} {ta tb tc : TE} {E : XK}
theorem ev_common_weight {v : V} {L : List Pt} (h1 : Ev Z ta σ H (IsV v)) (hp : Da Z H v (.tuple (L.map ptD))) (hn : ∀ p ∈ L, Nm p) (hl : L.length ≤ 40) : Ev Z (tCall (spOf G_common_weight) [] E (tCons ta tNil)) σ H (IsV (.int (cw L))) :=
  ev_call (ea_cons h1 ea_nil) fun H1 e => ⟨v, L, rfl, hp.mono e, hn, hl, rfl⟩
end
/-! scaled -/
def keyD (m : Int) (p : Pt) : PyData := .tuple [.int (keyP m p).1, .int (keyP m p).2]
def G_scaled : Gv := fun Z vs H R => ∃ v L, vs = [v] ∧ Da Z H v (.tuple (L.map ptD)) ∧ (∀ p ∈ L, Nm p) ∧ L.length ≤ 40 ∧ R = DaR Z (.tuple [.list (L.map (keyD (cw L))), .int (cw L)])
theorem ok_scaled (T : Tx K mg) : FnOk P w K mg base CX0 3 T.f_scaled T.d_scaled ["points"] (spOf G_scaled) := by
  refine T.F_scaled.ok sc_scaled (fun vs H Q E h => ?_) (fun cdv A outer s H vs Q E hr h => ?_)
  · obtain ⟨Z, R, _, ⟨v, d, rfl, _⟩, _⟩ := h
    rfl
  obtain ⟨Z, R, hw, ⟨v, L, rfl, hd, hL, hl, rfl⟩, hq⟩ := h
  refine ⟨_, (pss_cons (ps_set (i := 1) sc_scaled.nd rfl (Or.inr rfl) (pe_call (ok_common_weight T) (hr.mono (by decide)) (by rfl) T.g_common_weight T.F_common_weight.kp T.b_common_weight .nil pass0 (pa_cons (pv 0) pa_nil)))
  (pss_one (ps_ret (pe_tup (pa_cons (pe_lc (own := [("p", 2)]) (g := gName 2) rfl sc_scaled.nd (pi_tup (pv 0)) (blkOk_by (own := [("p", 2)]) (N := nm_scaled) (sc := defScope s_scaled) (by decide +kernel)) (fun _ _ _ _ _ => pg_name (i := 2) sc_scaled.nd rfl (Or.inl rfl)) (fun _ _ _ _ _ => pts_nil) (fun _ _ _ _ _ => (pe_tup (pa_cons (pe_op op_mulW (pe_ix (ix_tupK (K := K) rfl) (pv 2) pe_int (fun _ _ => rfl)) (pe_op op_fdivA (pv 1) (pe_ix (ix_tupK (K := K) rfl) (pv 2) pe_int (fun _ _ => rfl)))) (pa_cons (pe_op op_mulW (pe_ix (ix_tupK (K := K) rfl) (pv 2) pe_int (fun _ _ => rfl)) (pe_op op_fdivA (pv 1) (pe_ix (ix_tupK (K := K) rfl) (pv 2) pe_int (fun _ _ => rfl)))) pa_nil))))) (pa_cons (pv 1) pa_nil)))))), ?_⟩
  rw [show L2.start nm_scaled [v] = [some v, none, none] from rfl]
  obtain ⟨xs, hx, hxs⟩ := hd.tupE
  have hlen : xs.length = L.length := by rw [hxs.length, List.length_map]
  refine q_asg (Z := Z) (by walk_at "w") (ev_common_weight (by walk_at "ev") hd hL hl) fun v1 H1 e1 r1 => ?_
  subst r1
  have cb := cw_B40 hL hl
  have cp := cw_pos fun p hp => (hL p hp).p
  refine s_ret (Z := Z) (by walk_at "w") (ev_tupD (ea_consD (EvN.da (ds := L.map (keyD (cw L))) ?_) (ea_consD (ev_da (by walk_at "ev") (.int (cw L))) ea_nilD)) (by simp)) fun v2 H2 e2 r2 => hq _ _ (by walk_at "xt") r2
  have hc := en_lcTP (Z := Z) (σ := [some v, some (.int (cw L)), none]) (vs := [2]) (K := K) (H := H1) (t := tYes) (tl := tVar 0) (j := 2) (te := tTup (tCons (tOp (rI CMulW fun i j => .int (i * j)) (tOp (rIxT K) (tVar 2) (tC (.int 0))) (tOp (rI CDivA fun i j => .int (i.fdiv j)) (tVar 1) (tOp (rIxT K) (tVar 2) (tC (.int 2))))) (tCons (tOp (rI CMulW fun i j => .int (i * j)) (tOp (rIxT K) (tVar 2) (tC (.int 1))) (tOp (rI CDivA fun i j => .int (i.fdiv j)) (tVar 1) (tOp (rIxT K) (tVar 2) (tC (.int 2))))) tNil))) L (fun _ => true) (keyD (cw L)) (by walk_at "ev") (hx.mono e1) hlen (by omega) (fun x => rfl) (fun p _ => by simp [keyD, noL, noLL]) (fun i x a H2 e2 _ _ => et_yes) (fun i x p H2 e2 hi hp _ => ?_)
  · rw [filter_yes] at hc
    exact hc
  · obtain ⟨p', hp', py⟩ := getPt hxs hi
    rw [hp] at hp'
    cases hp'
    have hn := hL p (List.mem_of_getElem? hp)
    obtain ⟨nx, ny, nw, np⟩ := hn
    have py2 := py.mono (e1.trans e2)
    show Ev Z _ [some v, some (.int (cw L)), some x] H2 _
    have fb := fdiv_B cb cp np (cw_dvd (fun p hp => (hL p hp).p) (List.mem_of_getElem? hp))
    have q1 : CDivA (cw L) p.w := B.cdiv (by omega) nw (by decide)
    have q2 : CMulW p.x ((cw L).fdiv p.w) := B.cmul nx fb (by decide)
    have q3 : CMulW p.y ((cw L).fdiv p.w) := B.cmul ny fb (by decide)
    refine Ev.imp (ev_tup (ea_cons (ev_iC (ev_px (by walk_at "ev") (by walk_at "da") ev_c) (ev_iC (by walk_at "ev") (by walk_at "ev") (by walk_at "side")) (by walk_at "side")) (ea_cons (ev_iC (by walk_at "ev") (by walk_at "ev") (by walk_at "side")) ea_nil)) (by simp)) fun w H3 e3 h => h.da (.cons (.int _) (.cons (.int _) .nil))
section
variable {Z : Wd} {σ : L2.St} {H : Hp} {ta tb tc : TE} {E : XK}
theorem ev_scaled {v : V} {L : List Pt} (h1 : Ev Z ta σ H (IsV v)) (hp : Da Z H v (.tuple (L.map ptD))) (hn : ∀ p ∈ L, Nm p) (hl : L.length ≤ 40) : Ev Z (tCall (spOf G_scaled) [] E (tCons ta tNil)) σ H (DaR Z (.tuple [.list (L.map (keyD (cw L))), .int (cw L)])) :=
  ev_call (ea_cons h1 ea_nil) fun H1 e => ⟨v, L, rfl, hp.mono e, hn, hl, rfl⟩
end
/-! ranked -/
section
variable {Z : Wd} {σ : L2.St} {H : Hp} {te : TE}
def RngR (Z : Wd) (n : Int) : Rl := fun x H => ∃ r, x = .ref r ∧ H r = some (.rng 0 n) ∧ ¬ Z.S r
theorem ev_range1 {n : Int} (h : Ev Z te σ H (IsV (.int n))) : Ev Z (tCB (fun vs H Q => ∃ j, vs = [V.int j] ∧ ∀ p, H p = none → Q (.ref p) (upd H p (.rng 0 j))) (tCons te tNil)) σ H (RngR Z n) :=
  ev_cb (ea_cons h ea_nil) fun H1 e Q q => ⟨n, rfl, fun p hp => q _ _ (.new e.w2 hp) ⟨p, rfl, upd_same, nS e.w2 hp⟩⟩
theorem ev_sortLam {tbs : List (Addr × Str)} (tw : TabW Z tbs) {n i : Nat} {v : V} {ts : List Addr} (ks : Nat → Int × Int) (h : Ev Z te σ H (RngR Z (n : Int))) (hn : n ≤ 1000) (hσ : σ[i]? = some (some v)) (hL : LiR Z (ts.map V.ref) v H) (ht : ts.length = n)
    (hts : ∀ j t, ts[j]? = some t → RdT H t [.int (ks j).1, .int (ks j).2] ∧ ¬ Z.S t) : Ev Z (tSortLam tbs K i te) σ H (LiR Z (((List.range n).mergeSort (kyLe ks)).map fun (j : Nat) => V.int (j : Int))) := fun H1 e Q q =>
  h H1 e _ fun x H2 e2 ⟨r, hx, hr, _⟩ => by
    have e12 := e.trans e2
    obtain ⟨a, rfl, h1, h2⟩ := hL
    refine ⟨r, n, a, ts, ks, hx, hr, hn, tw.tabs e2.w2, hσ, .inl (.inl (e12.kp _ _ h2 h1)), ht, fun j t hj => ?_, fun H3 p eN T3 hp => ?_⟩
    · obtain ⟨k1, k2⟩ := hts j t hj
      exact (e12.rd k2 k1).h
    · have x3 := tw.xt e2.w2 eN T3
      exact q _ _ ((e2.trans x3).trans (.new x3.w2 hp)) ⟨p, rfl, upd_same, nS x3.w2 hp⟩
theorem key_refs {m : Int} : ∀ {L : List Pt} {xs : List V}, DaL Z H xs (L.map (keyD m)) → ∃ ts : List Addr, xs = ts.map V.ref ∧ ts.length = L.length ∧ ∀ (j : Nat) t, ts[j]? = some t → ∃ p, L[j]? = some p ∧ RdT H t [.int (keyP m p).1, .int (keyP m p).2] ∧ ¬ Z.S t
  | [], _, h => by
    cases h
    exact ⟨[], rfl, rfl, fun j t h => by simp at h⟩
  | p :: L, _, h => by
    cases h with
    | cons a b =>
      obtain ⟨ts, h1, h2, h3⟩ := key_refs b
      cases a with
      | tup k1 k2 k3 =>
        cases k3 with
        | cons a1 b1 =>
          cases a1
          cases b1 with
          | cons a2 b2 =>
            cases a2
            cases b2
            refine ⟨_ :: ts, by rw [h1]; rfl, by simp [h2], fun j t hj => ?_⟩
            cases j with
            | zero =>
              simp at hj
              subst hj
              exact ⟨p, rfl, k1, k2⟩
            | succ j => exact h3 j t (by simpa using hj)
end
def rkL (js : List Nat) : PyData := .tuple (js.map fun (j : Nat) => PyData.int (j : Int))
def ksOf (L : List Pt) (j : Nat) : Int × Int := match L[j]? with
  | some p => keyP (cw L) p
  | none => (0, 0)
def rkOf (L : List Pt) : List Nat := (List.range L.length).mergeSort (kyLe (ksOf L))
def G_ranked (tbs : List (Addr × Str)) : Gv := fun Z vs H R => ∃ v L, vs = [v] ∧ TabW Z tbs ∧ Da Z H v (.tuple (L.map ptD)) ∧ Pts L ∧ R = DaR Z (rkL (rkOf L))
theorem tabs_in (T : Tx K mg) : (T.P_ranked, lamQ) ∈ tabs T := List.mem_singleton.mpr rfl
theorem tabs_one (T : Tx K mg) : ∀ q ∈ tabs T, q.1 = T.P_ranked → q.2 = lamQ := fun q hq _ => by
  cases List.mem_singleton.mp hq
  rfl
theorem ok_ranked (T : Tx K mg) (TB : LamX.TabB base mg T.c_ranked T.P_ranked) : FnOk P w K mg base CX0 4 T.f_ranked T.d_ranked ["points"] (spOf (G_ranked (tabs T))) := by
  refine T.C_ranked.ok sc_ranked (fun vs H Q E h => ?_) (fun A outer s H vs Q E hr h => ?_)
  · obtain ⟨Z, R, _, ⟨v, d, rfl, _⟩, _⟩ := h
    rfl
  obtain ⟨Z, R, hw, ⟨v, L, rfl, tw, hd, hL, rfl⟩, hq⟩ := h
  refine ⟨_, (pss_cons (ps_expr (pe_call (ok_need_points T) (hr.mono (by decide)) (by rfl) T.g_need_points T.F_need_points.kp T.b_need_points .nil pass0 (pa_cons (pv 0) pa_nil)))
  (pss_cons (ps_asg (pe_call (ok_scaled T) (hr.mono (by decide)) (by rfl) T.g_scaled T.F_scaled.kp T.b_scaled .nil pass0 (pa_cons (pv 0) pa_nil)) (pg_tup rfl (pgs_cons (pg_name (i := 1) sc_ranked.nd rfl (Or.inr rfl)) (pgs_cons (pg_name (i := 2) sc_ranked.nd rfl (Or.inl rfl)) pgs_nil))))
  (pss_one (ps_ret (pe_callTy call_tuple_of (by rfl) T.z_tuple (by decide +kernel) (pa_cons (pe_sortedLam (T := tabs T) (k := 0) (i := 1) (c := T.c_ranked) (P := T.P_ranked) (by rfl) T.z_sorted (pe_callTy cr_range1 (by rfl) T.z_range (by decide +kernel) (pa_cons (pe_callB call_len_seq (by rfl) T.z_len (by decide +kernel) (pa_cons (pv 0) pa_nil)) pa_nil)) TB rfl (tabs_in T) (tabs_one T) hr rfl (fun _ _ _ _ _ _ => rfl) rfl rfl rfl (by decide +kernel) rfl rfl (by decide +kernel) rfl rfl (by decide) (by decide) (by decide)) pa_nil)))))), ?_⟩
  rw [show L2.start nm_ranked [v] = [some v, none, none] from rfl]
  have hn : ∀ p ∈ L, Nm p := fun p hp => (hL.ok p hp).nm
  have l2 := hL.l2
  obtain ⟨xs, hx, hxs⟩ := hd.tupE
  have hlen : xs.length = L.length := by rw [hxs.length, List.length_map]
  refine q_drop (Z := Z) (by walk_at "w") (ev_need_points (by walk_at "ev") hd hL) fun v1 H1 e1 r1 => ?_
  refine q_asgG (Z := Z) (by walk_at "w") (ev_scaled (by walk_at "ev") (hd.mono e1) hn l2) fun v2 H2 e2 r2 => ?_
  obtain ⟨us, hu, hus⟩ := Da.tupE r2
  cases hus with
  | cons a b =>
    cases b with
    | cons c d =>
      cases c
      cases d
      refine g_tup2 hu ?_
      obtain ⟨ks, hk, hks⟩ := Da.lstE a
      obtain ⟨ts, rfl, ht, hts⟩ := key_refs hks
      refine s_ret (Z := Z) (by walk_at "w") (R := DaR Z (rkL (rkOf L))) (Ev.imp (ev_tupOfL (ev_sortLam (n := L.length) tw (ksOf L) (ev_range1 (ev_is (ev_lenT (by walk_at "ev") (hx.mono (e1.trans e2))) (by rw [hlen]))) (by omega) rfl hk ht (fun j t hj => ?_)) (fun v H1 _ h => h)) fun v3 H3 e3 r3 => ?_) fun v3 H3 e3 r3 => hq _ _ (by walk_at "xt") r3
      · obtain ⟨p, h1, h2, h3⟩ := hts j t hj
        refine ⟨?_, h3⟩
        unfold ksOf
        rw [h1]
        exact h2
      · refine r3.da ?_
        have := daL_ints (Z := Z) (H := H3) ((rkOf L).map fun (j : Nat) => (j : Int))
        rw [List.map_map, List.map_map] at this
        exact this
section
variable {Z : Wd} {σ : L2.St} {H : Hp} {ta tb tc : TE} {E : XK}
theorem ev_ranked {tbs : List (Addr × Str)} {v : V} {L : List Pt} (tw : TabW Z tbs) (h1 : Ev Z ta σ H (IsV v)) (hp : Da Z H v (.tuple (L.map ptD))) (ho : Pts L) : Ev Z (tCall (spOf (G_ranked tbs)) [] E (tCons ta tNil)) σ H (DaR Z (rkL (rkOf L))) :=
  ev_call (ea_cons h1 ea_nil) fun H1 e => ⟨v, L, rfl, tw, hp.mono e, ho, rfl⟩
end
end
end Hk
/-! ## F7 -/
namespace Hk
open PySem PySem.Spec PyProof.Rows L2
local macro_rules | `(tactic| walk_at "bd") => `(tactic| first
  | assumption
  | exact (show B 64 _ from by unfold B; decide)
  | (refine' B.mul ?b1 ?b2; (case b1 => walk_at "bd"); (case b2 => walk_at "bd"))
  | (refine' B.sub ?b1 ?b2; (case b1 => walk_at "bd"); (case b2 => walk_at "bd"))
  | (refine' B.add ?b1 ?b2; (case b1 => walk_at "bd"); (case b2 => walk_at "bd"))
  | (refine' B.neg ?b1; (case b1 => walk_at "bd")))
local macro_rules | `(tactic| walk_at "da") => `(tactic| first
  | assumption
  | exact Da.int _
  | exact Da.non
  | exact Da.bl _
  | exact Da.str _
  | ((with_reducible refine' P3.mono (by assumption) ?d1); (case d1 => walk_at "da"))
  | ((with_reducible refine' Ra.mono (by assumption) ?d1); (case d1 => walk_at "da"))
  | ((with_reducible refine' TuR.mono (by assumption) ?d1); (case d1 => walk_at "da"))
  | ((with_reducible refine' LiR.mono (by assumption) ?d1); (case d1 => walk_at "da"))
  | ((with_reducible refine' Da.mono (by assumption) ?d1); (case d1 => walk_at "da")))
local macro_rules | `(tactic| walk_at "xt") => `(tactic| first
  | assumption
  | (refine' Xt.trans ?x1 (by assumption); (case x1 => walk_at "xt")))
local macro_rules | `(tactic| walk_at "w") => `(tactic| first
  | assumption
  | exact Xt.w2 (by assumption)
  | exact Xt.w1 (by assumption))
local macro_rules | `(tactic| walk_at "side") => `(tactic| first
  | assumption
  | (refine' B.cmul ?b1 ?b2 ?b3; (case b1 => walk_at "bd"); (case b2 => walk_at "bd"); (case b3 => first | decide | omega))
  | (refine' B.cdiv ?b1 ?b2 ?b3; (case b1 => assumption); (case b2 => walk_at "bd"); (case b3 => first | decide | omega)))
local macro_rules | `(tactic| walk_at "ea") => `(tactic| first
  | with_reducible exact ea_nil
  | ((with_reducible refine' ea_cons ?p1 ?p2); (case p1 => walk_at "ev"); (case p2 => walk_at "ea")))
local macro_rules | `(tactic| walk_at "et") => `(tactic| first
  | ((with_reducible refine' et_and ?p1 ?p2); (case p1 => walk_at "et"); (case p2 => intro _; walk_at "et"))
  | ((with_reducible refine' et_or ?p1 ?p2); (case p1 => walk_at "et"); (case p2 => intro _; walk_at "et"))
  | ((with_reducible refine' et_not ?p1); (case p1 => walk_at "et"))
  | ((with_reducible refine' et_test ?p1); (case p1 => walk_at "ev"))
  | ((with_reducible refine' et_B ?p1); (case p1 => walk_at "ev")))
local macro_rules | `(tactic| walk_at "ev") => `(tactic| first
  | with_reducible exact ev_c
  | ((with_reducible refine' ev_var ?v1); (case v1 => exact rfl))
  | ((with_reducible refine' ev_px ?p1 ?p2 ?p3); (case p1 => walk_at "ev"); (case p2 => walk_at "da"); (case p3 => with_reducible exact ev_c))
  | ((with_reducible refine' ev_py ?p1 ?p2 ?p3); (case p1 => walk_at "ev"); (case p2 => walk_at "da"); (case p3 => with_reducible exact ev_c))
  | ((with_reducible refine' ev_pw ?p1 ?p2 ?p3); (case p1 => walk_at "ev"); (case p2 => walk_at "da"); (case p3 => with_reducible exact ev_c))
  | ((with_reducible refine' ev_ixT ?p1 ?p2 ?p3 ?p4); (case p1 => walk_at "ev"); (case p2 => walk_at "da"); (case p3 => walk_at "ev"); (case p4 => first | exact rfl | assumption))
  | ((with_reducible refine' ev_ixL ?p1 ?p2 ?p3 ?p4); (case p1 => walk_at "ev"); (case p2 => walk_at "da"); (case p3 => walk_at "ev"); (case p4 => first | exact rfl | assumption))
  | ((with_reducible refine' ev_i0 ?p1 ?p2); (case p1 => walk_at "ev"); (case p2 => walk_at "ev"))
  | ((with_reducible refine' ev_iC ?p1 ?p2 ?p3); (case p1 => walk_at "ev"); (case p2 => walk_at "ev"); (case p3 => walk_at "side"))
  | ((with_reducible refine' ev_neg ?p1); (case p1 => walk_at "ev"))
  | ((with_reducible refine' ev_eq ?p1 ?p2 ?p3); (case p1 => walk_at "ev"); (case p2 => walk_at "ev"); (case p3 => exact rfl))
  | ((with_reducible refine' ev_ne ?p1 ?p2 ?p3); (case p1 => walk_at "ev"); (case p2 => walk_at "ev"); (case p3 => exact rfl))
  | ((with_reducible refine' ev_andV ?p1 ?p2); (case p1 => walk_at "ev"); (case p2 => intro _; walk_at "ev"))
  | ((with_reducible refine' ev_orV ?p1 ?p2); (case p1 => walk_at "ev"); (case p2 => intro _; walk_at "ev"))
  | ((with_reducible refine' ev_notV ?p1); (case p1 => walk_at "ev"))
  | ((with_reducible refine' ev_subB ?p1 ?p2); (case p1 => walk_at "ev"); (case p2 => walk_at "ev"))
  | ((with_reducible refine' ev_chI ?p1 ?p2 ?p3); (case p1 => walk_at "ev"); (case p2 => walk_at "ev"); (case p3 => walk_at "ev"))
  | ((with_reducible refine' ev_isInt ?p1 ?p2); (case p1 => walk_at "ev"); (case p2 => walk_at "da"))
  | ((with_reducible refine' ev_isBool ?p1 ?p2); (case p1 => walk_at "ev"); (case p2 => walk_at "da"))
  | ((with_reducible refine' ev_isStr ?p1 ?p2); (case p1 => walk_at "ev"); (case p2 => walk_at "da"))
  | ((with_reducible refine' ev_isTup ?p1 ?p2); (case p1 => walk_at "ev"); (case p2 => walk_at "da"))
  | ((with_reducible refine' ev_isLst ?p1 ?p2); (case p1 => walk_at "ev"); (case p2 => walk_at "da"))
  | ((with_reducible refine' ev_isTL ?p1 ?p2); (case p1 => walk_at "ev"); (case p2 => walk_at "da"))
  | ((with_reducible refine' ev_lenT ?p1 ?p2); (case p1 => walk_at "ev"); (case p2 => walk_at "da"))
  | ((with_reducible refine' ev_lenL ?p1 ?p2); (case p1 => walk_at "ev"); (case p2 => walk_at "da"))
  | ((with_reducible refine' ev_abs ?p1); (case p1 => walk_at "ev"))
  | ((with_reducible refine' ev_min2 ?p1 ?p2); (case p1 => walk_at "ev"); (case p2 => walk_at "ev"))
  | ((with_reducible refine' ev_int1 ?p1); (case p1 => walk_at "ev"))
  | ((with_reducible refine' ev_isN ?p1); (case p1 => walk_at "ev"))
  | ((with_reducible refine' ev_notN ?p1); (case p1 => walk_at "ev"))
  | ((with_reducible refine' ev_sign ?p1); (case p1 => walk_at "ev"))
  | ((with_reducible refine' ev_gcd ?p1 ?p2); (case p1 => walk_at "ev"); (case p2 => walk_at "ev"))
  | ((with_reducible refine' ev_is_in ?p1 ?p2 ?p3 ?p4); (case p1 => walk_at "ev"); (case p2 => walk_at "da"); (case p3 => walk_at "ev"); (case p4 => walk_at "ev"))
  | ((with_reducible refine' ev_doubled ?p1 ?p2 ?p3 ?p4 ?p5 ?p6 ?p7 ?p8 ?p9); (case p1 => walk_at "ev"); (case p2 => walk_at "ev"); (case p3 => walk_at "ev"); (case p4 => walk_at "da"); (case p5 => walk_at "da"); (case p6 => walk_at "da"); (case p7 => assumption); (case p8 => assumption); (case p9 => assumption))
  | ((with_reducible refine' ev_order_of ?p1 ?p2 ?p3 ?p4 ?p5 ?p6); (case p1 => walk_at "ev"); (case p2 => walk_at "ev"); (case p3 => walk_at "da"); (case p4 => walk_at "da"); (case p5 => assumption); (case p6 => assumption))
  | ((with_reducible refine' ev_turn_of ?p1 ?p2 ?p3 ?p4 ?p5 ?p6 ?p7 ?p8 ?p9); (case p1 => walk_at "ev"); (case p2 => walk_at "ev"); (case p3 => walk_at "ev"); (case p4 => walk_at "da"); (case p5 => walk_at "da"); (case p6 => walk_at "da"); (case p7 => assumption); (case p8 => assumption); (case p9 => assumption))
  | ((with_reducible refine' ev_is_between ?p1 ?p2 ?p3 ?p4 ?p5 ?p6 ?p7 ?p8 ?p9); (case p1 => walk_at "ev"); (case p2 => walk_at "ev"); (case p3 => walk_at "ev"); (case p4 => walk_at "da"); (case p5 => walk_at "da"); (case p6 => walk_at "da"); (case p7 => assumption); (case p8 => assumption); (case p9 => assumption)))
section
variable {P : Program} {w : World} {K : PySem.W.Frag} {mg : Str → Option Value} {base : Heap}
/-! the chain on places -/
def popI (d : Nat → Pt) (p : Pt) : List Nat → List Nat
  | h1 :: h2 :: r => if det (d h2) (d h1) p ≤ 0 then popI d p (h2 :: r) else h1 :: h2 :: r
  | l => l
def chainI (d : Nat → Pt) : List Nat → List Nat → List Nat
  | st, [] => st
  | st, j :: r => chainI d (j :: popI d (d j) st) r
theorem popI_map (d : Nat → Pt) (p : Pt) : ∀ st : List Nat, (popI d p st).map d = popTo p (st.map d)
  | [] => rfl
  | [_] => rfl
  | h1 :: h2 :: r => by
    unfold popI
    rw [List.map_cons, List.map_cons]
    unfold popTo
    split
    · exact popI_map d p (h2 :: r)
    · rfl
theorem chainI_map (d : Nat → Pt) : ∀ (l st : List Nat), (chainI d st l).map d = chainS (st.map d) (l.map d)
  | [], _ => rfl
  | j :: r, st => by
    show (chainI d (j :: popI d (d j) st) r).map d = chainS (d j :: popTo (d j) (st.map d)) (r.map d)
    rw [chainI_map d r, List.map_cons, popI_map]
theorem chainI_app (d : Nat → Pt) : ∀ (l st r : List Nat), chainI d st (l ++ r) = chainI d (chainI d st l) r
  | [], _, _ => rfl
  | j :: l, st, r => chainI_app d l (j :: popI d (d j) st) r
theorem popI_sub (d : Nat → Pt) (p : Pt) : ∀ st : List Nat, ∀ x ∈ popI d p st, x ∈ st
  | [], x, h => h
  | [_], x, h => h
  | h1 :: h2 :: r, x, h => by
    unfold popI at h
    split at h
    · exact List.mem_cons_of_mem _ (popI_sub d p (h2 :: r) x h)
    · exact h
theorem chainI_sub (d : Nat → Pt) : ∀ (l st : List Nat), ∀ x ∈ chainI d st l, x ∈ st ∨ x ∈ l
  | [], _, x, h => .inl h
  | j :: r, st, x, h => by
    rcases chainI_sub d r (j :: popI d (d j) st) x h with h | h
    · rcases List.mem_cons.mp h with rfl | h
      · exact .inr (by simp)
      · exact .inl (popI_sub d _ st x h)
    · exact .inr (List.mem_cons_of_mem _ h)
theorem popI_len (d : Nat → Pt) (p : Pt) : ∀ st : List Nat, (popI d p st).length ≤ st.length
  | [] => Nat.le_refl _
  | [_] => Nat.le_refl _
  | h1 :: h2 :: r => by
    unfold popI
    split
    · exact Nat.le_trans (popI_len d p (h2 :: r)) (by simp)
    · exact Nat.le_refl _
theorem chainI_len (d : Nat → Pt) : ∀ (l st : List Nat), (chainI d st l).length ≤ st.length + l.length
  | [], _ => Nat.le_refl _
  | j :: r, st => by
    have h1 := chainI_len d r (j :: popI d (d j) st)
    have h2 := popI_len d (d j) st
    simp only [List.length_cons] at *
    unfold chainI
    omega
def iV (js : List Nat) : List V := js.map fun (j : Nat) => V.int (j : Int)
def iD (js : List Nat) : List PyData := js.map fun (j : Nat) => PyData.int (j : Int)
theorem iV_app (a b : List Nat) : iV (a ++ b) = iV a ++ iV b := List.map_append
theorem iV_len (a : List Nat) : (iV a).length = a.length := List.length_map ..
theorem daL_i {Z : Wd} {H : Hp} (js : List Nat) : DaL Z H (iV js) (iD js) := by
  have := daL_ints (Z := Z) (H := H) (js.map fun (j : Nat) => (j : Int))
  rw [List.map_map, List.map_map] at this
  exact this
theorem i_daL {Z : Wd} {H : Hp} {js : List Nat} {xs : List V} (h : DaL Z H xs (iD js)) : xs = iV js := by
  have := ints_daL (Z := Z) (H := H) (ns := js.map fun (j : Nat) => (j : Int)) (xs := xs) (by rw [List.map_map]; exact h)
  rw [List.map_map] at this
  exact this
theorem iV_get {js : List Nat} {i j : Nat} (h : js[i]? = some j) : (iV js)[i]? = some (.int (j : Int)) := by
  unfold iV
  rw [List.getElem?_map, h]; rfl
theorem iV_get' {js : List Nat} {i : Nat} {y : V} (h : (iV js)[i]? = some y) : ∃ j, js[i]? = some j ∧ y = .int (j : Int) := by
  unfold iV at h
  rw [List.getElem?_map] at h
  cases e : js[i]? with
  | none => rw [e] at h; cases h
  | some j =>
    rw [e] at h
    cases h
    exact ⟨j, rfl, rfl⟩
theorem at_last {xs : List V} {x : V} : atI (xs ++ [x]) (-1) = some x := atI_last xs x
theorem at_last2 {xs : List V} {x y : V} : atI (xs ++ [x, y]) (-2) = some x := by
  unfold atI ixN
  simp only [List.length_append, List.length_cons, List.length_nil]
  rw [if_neg (by decide), if_pos (by omega)]
  have : ((-2 : Int) + ((xs.length + (0 + 1 + 1) : Nat) : Int)).toNat = xs.length := by omega
  show (xs ++ [x, y])[((-2 : Int) + ((xs.length + (0 + 1 + 1) : Nat) : Int)).toNat]? = some x
  rw [this]
  simp
/-- the while loop: pops -/
theorem rk_mem {L : List Pt} {j : Nat} (h : j ∈ rkOf L) : j < L.length := by
  unfold rkOf at h
  exact List.mem_range.mp ((List.mergeSort_perm _ _).mem_iff.mp h)
theorem rk_len (L : List Pt) : (rkOf L).length = L.length := by
  unfold rkOf
  rw [List.length_mergeSort, List.length_range]
def halfI (L : List Pt) : Nat → List Nat
  | 0 => (chainI (gt L) [] (rkOf L)).reverse
  | _ => (chainI (gt L) [] (rkOf L).reverse).reverse
def hullI (L : List Pt) : List Nat := if 1 < L.length then (halfI L 0).dropLast ++ (halfI L 1).dropLast else [0]
end
end Hk
/-! ## F8 -/
namespace Hk
open PySem PySem.Spec PyProof.Rows L2
local macro_rules | `(tactic| walk_at "bd") => `(tactic| first
  | assumption
  | exact (show B 64 _ from by unfold B; decide)
  | (refine' B.mul ?b1 ?b2; (case b1 => walk_at "bd"); (case b2 => walk_at "bd"))
  | (refine' B.sub ?b1 ?b2; (case b1 => walk_at "bd"); (case b2 => walk_at "bd"))
  | (refine' B.add ?b1 ?b2; (case b1 => walk_at "bd"); (case b2 => walk_at "bd"))
  | (refine' B.neg ?b1; (case b1 => walk_at "bd")))
local macro_rules | `(tactic| walk_at "da") => `(tactic| first
  | assumption
  | exact Da.int _
  | exact Da.non
  | exact Da.bl _
  | exact Da.str _
  | ((with_reducible refine' P3.mono (by assumption) ?d1); (case d1 => walk_at "da"))
  | ((with_reducible refine' Ra.mono (by assumption) ?d1); (case d1 => walk_at "da"))
  | ((with_reducible refine' TuR.mono (by assumption) ?d1); (case d1 => walk_at "da"))
  | ((with_reducible refine' LiR.mono (by assumption) ?d1); (case d1 => walk_at "da"))
  | ((with_reducible refine' Da.mono (by assumption) ?d1); (case d1 => walk_at "da")))
local macro_rules | `(tactic| walk_at "xt") => `(tactic| first
  | assumption
  | (refine' Xt.trans ?x1 (by assumption); (case x1 => walk_at "xt")))
local macro_rules | `(tactic| walk_at "w") => `(tactic| first
  | assumption
  | exact Xt.w2 (by assumption)
  | exact Xt.w1 (by assumption))
local macro_rules | `(tactic| walk_at "side") => `(tactic| first
  | assumption
  | (refine' B.cmul ?b1 ?b2 ?b3; (case b1 => walk_at "bd"); (case b2 => walk_at "bd"); (case b3 => first | decide | omega))
  | (refine' B.cdiv ?b1 ?b2 ?b3; (case b1 => assumption); (case b2 => walk_at "bd"); (case b3 => first | decide | omega)))
local macro_rules | `(tactic| walk_at "ea") => `(tactic| first
  | with_reducible exact ea_nil
  | ((with_reducible refine' ea_cons ?p1 ?p2); (case p1 => walk_at "ev"); (case p2 => walk_at "ea")))
local macro_rules | `(tactic| walk_at "et") => `(tactic| first
  | ((with_reducible refine' et_and ?p1 ?p2); (case p1 => walk_at "et"); (case p2 => intro _; walk_at "et"))
  | ((with_reducible refine' et_or ?p1 ?p2); (case p1 => walk_at "et"); (case p2 => intro _; walk_at "et"))
  | ((with_reducible refine' et_not ?p1); (case p1 => walk_at "et"))
  | ((with_reducible refine' et_test ?p1); (case p1 => walk_at "ev"))
  | ((with_reducible refine' et_B ?p1); (case p1 => walk_at "ev")))
local macro_rules | `(tactic| walk_at "ev") => `(tactic| first
  | with_reducible exact ev_c
  | ((with_reducible refine' ev_var ?v1); (case v1 => exact rfl))
  | ((with_reducible refine' ev_px ?p1 ?p2 ?p3); (case p1 => walk_at "ev"); (case p2 => walk_at "da"); (case p3 => with_reducible exact ev_c))
  | ((with_reducible refine' ev_py ?p1 ?p2 ?p3); (case p1 => walk_at "ev"); (case p2 => walk_at "da"); (case p3 => with_reducible exact ev_c))
  | ((with_reducible refine' ev_pw ?p1 ?p2 ?p3); (case p1 => walk_at "ev"); (case p2 => walk_at "da"); (case p3 => with_reducible exact ev_c))
  | ((with_reducible refine' ev_ixT ?p1 ?p2 ?p3 ?p4); (case p1 => walk_at "ev"); (case p2 => walk_at "da"); (case p3 => walk_at "ev"); (case p4 => first | exact rfl | assumption))
  | ((with_reducible refine' ev_ixL ?p1 ?p2 ?p3 ?p4); (case p1 => walk_at "ev"); (case p2 => walk_at "da"); (case p3 => walk_at "ev"); (case p4 => first | exact rfl | assumption))
  | ((with_reducible refine' ev_i0 ?p1 ?p2); (case p1 => walk_at "ev"); (case p2 => walk_at "ev"))
  | ((with_reducible refine' ev_iC ?p1 ?p2 ?p3); (case p1 => walk_at "ev"); (case p2 => walk_at "ev"); (case p3 => walk_at "side"))
  | ((with_reducible refine' ev_neg ?p1); (case p1 => walk_at "ev"))
  | ((with_reducible refine' ev_eq ?p1 ?p2 ?p3); (case p1 => walk_at "ev"); (case p2 => walk_at "ev"); (case p3 => exact rfl))
  | ((with_reducible refine' ev_ne ?p1 ?p2 ?p3); (case p1 => walk_at "ev"); (case p2 => walk_at "ev"); (case p3 => exact rfl))
  | ((with_reducible refine' ev_andV ?p1 ?p2); (case p1 => walk_at "ev"); (case p2 => intro _; walk_at "ev"))
  | ((with_reducible refine' ev_orV ?p1 ?p2); (case p1 => walk_at "ev"); (case p2 => intro _; walk_at "ev"))
  | ((with_reducible refine' ev_notV ?p1); (case p1 => walk_at "ev"))
  | ((with_reducible refine' ev_subB ?p1 ?p2); (case p1 => walk_at "ev"); (case p2 => walk_at "ev"))
  | ((with_reducible refine' ev_chI ?p1 ?p2 ?p3); (case p1 => walk_at "ev"); (case p2 => walk_at "ev"); (case p3 => walk_at "ev"))
  | ((with_reducible refine' ev_isInt ?p1 ?p2); (case p1 => walk_at "ev"); (case p2 => walk_at "da"))
  | ((with_reducible refine' ev_isBool ?p1 ?p2); (case p1 => walk_at "ev"); (case p2 => walk_at "da"))
  | ((with_reducible refine' ev_isStr ?p1 ?p2); (case p1 => walk_at "ev"); (case p2 => walk_at "da"))
  | ((with_reducible refine' ev_isTup ?p1 ?p2); (case p1 => walk_at "ev"); (case p2 => walk_at "da"))
  | ((with_reducible refine' ev_isLst ?p1 ?p2); (case p1 => walk_at "ev"); (case p2 => walk_at "da"))
  | ((with_reducible refine' ev_isTL ?p1 ?p2); (case p1 => walk_at "ev"); (case p2 => walk_at "da"))
  | ((with_reducible refine' ev_lenT ?p1 ?p2); (case p1 => walk_at "ev"); (case p2 => walk_at "da"))
  | ((with_reducible refine' ev_lenL ?p1 ?p2); (case p1 => walk_at "ev"); (case p2 => walk_at "da"))
  | ((with_reducible refine' ev_abs ?p1); (case p1 => walk_at "ev"))
  | ((with_reducible refine' ev_min2 ?p1 ?p2); (case p1 => walk_at "ev"); (case p2 => walk_at "ev"))
  | ((with_reducible refine' ev_int1 ?p1); (case p1 => walk_at "ev"))
  | ((with_reducible refine' ev_isN ?p1); (case p1 => walk_at "ev"))
  | ((with_reducible refine' ev_notN ?p1); (case p1 => walk_at "ev"))
  | ((with_reducible refine' ev_sign ?p1); (case p1 => walk_at "ev"))
  | ((with_reducible refine' ev_gcd ?p1 ?p2); (case p1 => walk_at "ev"); (case p2 => walk_at "ev"))
  | ((with_reducible refine' ev_is_in ?p1 ?p2 ?p3 ?p4); (case p1 => walk_at "ev"); (case p2 => walk_at "da"); (case p3 => walk_at "ev"); (case p4 => walk_at "ev"))
  | ((with_reducible refine' ev_doubled ?p1 ?p2 ?p3 ?p4 ?p5 ?p6 ?p7 ?p8 ?p9); (case p1 => walk_at "ev"); (case p2 => walk_at "ev"); (case p3 => walk_at "ev"); (case p4 => walk_at "da"); (case p5 => walk_at "da"); (case p6 => walk_at "da"); (case p7 => assumption); (case p8 => assumption); (case p9 => assumption))
  | ((with_reducible refine' ev_order_of ?p1 ?p2 ?p3 ?p4 ?p5 ?p6); (case p1 => walk_at "ev"); (case p2 => walk_at "ev"); (case p3 => walk_at "da"); (case p4 => walk_at "da"); (case p5 => assumption); (case p6 => assumption))
  | ((with_reducible refine' ev_turn_of ?p1 ?p2 ?p3 ?p4 ?p5 ?p6 ?p7 ?p8 ?p9); (case p1 => walk_at "ev"); (case p2 => walk_at "ev"); (case p3 => walk_at "ev"); (case p4 => walk_at "da"); (case p5 => walk_at "da"); (case p6 => walk_at "da"); (case p7 => assumption); (case p8 => assumption); (case p9 => assumption))
  | ((with_reducible refine' ev_is_between ?p1 ?p2 ?p3 ?p4 ?p5 ?p6 ?p7 ?p8 ?p9); (case p1 => walk_at "ev"); (case p2 => walk_at "ev"); (case p3 => walk_at "ev"); (case p4 => walk_at "da"); (case p5 => walk_at "da"); (case p6 => walk_at "da"); (case p7 => assumption); (case p8 => assumption); (case p9 => assumption)))
section
variable {P : Program} {w : World} {K : PySem.W.Frag} {mg : Str → Option Value} {base : Heap}
section
variable {Z : Wd} {σ : L2.St} {H : Hp} {te : TE} {v : V}
theorem ev_revT {xs : List V} (h : Ev Z te σ H (IsV v)) (hx : TuR Z xs v H) : Ev Z (tRevT K te) σ H (TuR Z xs.reverse) := fun H1 e Q q =>
  h H1 e _ fun x H2 e2 hv => by
    subst hv
    obtain ⟨a, rfl, h1, h2⟩ := hx
    exact ⟨a, xs, rfl, .inl ((e.trans e2).rd h2 h1).h, fun p hp => q _ _ (e2.trans (.new e2.w2 hp)) ⟨p, rfl, ⟨.inl upd_same⟩, nS e2.w2 hp⟩⟩
/-- a new list of known values: its place was free -/
theorem en_lst' {ta : TA} {vs : List V} (h : EvA Z ta σ H (fun us _ => us = vs)) (hl : vs.length ≤ 100000) : EvN Z (tLst ta) σ H (fun p H2 => H2 p = some (.lst vs) ∧ ¬ Z.S p) := fun H1 e Q q => en_lst h (fun us _ e => by rw [e]; exact hl) H1 e Q fun p H2 n ns e2 ⟨us, H3, e4, _, _, e5, e6⟩ => q p H2 n ns e2 ⟨by rw [e5, e4], e6⟩
theorem EvN.fr {RN : Addr → Hp → Prop} (h : EvN Z te σ H RN) : Ev Z te σ H (fun x H1 => ∃ p, x = .ref p ∧ Fr H p ∧ ¬ Z.S p ∧ RN p H1) := fun H1 e Q q => h H1 e Q fun p H2 n ns e2 r => q _ H2 e2 ⟨p, rfl, e.backF ns n, ns, r⟩
theorem Fr.ne {p q : Addr} {xs : List V} (h : Fr H p) (hq : H q = some (.lst xs)) : q ≠ p := fun e => by
  subst e
  obtain ⟨ps, z⟩ := h _ hq
  cases z
theorem LiR.mut' {vs xs0 ys : List V} {p : Addr} (h0 : LiR Z vs v H) (hf : ∀ a, v = .ref a → a ≠ p) : LiR Z vs v (upd H p (.lst ys)) := by
  obtain ⟨a, e, h1, h2⟩ := h0
  refine ⟨a, e, ?_, h2⟩
  rw [upd_ne (hf a e)]
  exact h1
end
def G_hull_indexes (tbs : List (Addr × Str)) : Gv := fun Z vs H R => ∃ v L, vs = [v] ∧ TabW Z tbs ∧ Da Z H v (.tuple (L.map ptD)) ∧ Pts L ∧ R = DaR Z (.list (iD (hullI L)))
theorem half_len (L : List Pt) (i : Nat) : (halfI L i).length ≤ L.length := by
  unfold halfI
  split
  · have := chainI_len (gt L) (rkOf L) []
    rw [rk_len] at this
    simp only [List.length_nil] at this
    rw [List.length_reverse]
    omega
  · have := chainI_len (gt L) (rkOf L).reverse []
    rw [List.length_reverse, rk_len] at this
    simp only [List.length_nil] at this
    rw [List.length_reverse]
    omega
theorem half_sub {L : List Pt} {js : List Nat} (h : ∀ j ∈ js, j < L.length) : ∀ j ∈ chainI (gt L) [] js, j < L.length := fun j hj => by
  rcases chainI_sub _ _ _ j hj with h1 | h1
  · cases h1
  · exact h j h1
theorem ok_hull_indexes (T : Tx K mg) (TB : LamX.TabB base mg T.c_ranked T.P_ranked) : FnOk P w K mg base CX0 5 T.f_hull_indexes T.d_hull_indexes ["points"] (spOf (G_hull_indexes (tabs T))) := by
  refine T.F_hull_indexes.ok sc_hull_indexes (fun vs H Q E h => ?_) (fun cdv A outer s H vs Q E hr h => ?_)
  · obtain ⟨Z, R, _, ⟨v, d, rfl, _⟩, _⟩ := h
    rfl
  obtain ⟨Z, R, hw, ⟨v, L, rfl, tw, hd, hL, rfl⟩, hq⟩ := h
  refine ⟨_, (pss_cons (ps_par (i := 1) (j := 2) rfl sc_hull_indexes.nd rfl rfl (by decide) rfl rfl (pa_cons (pe_call (ok_ranked T TB) (hr.mono (by decide)) (by rfl) T.g_ranked T.F_ranked.kp T.b_ranked .nil pass0 (pa_cons (pv 0) pa_nil)) (pa_cons (pe_lst pa_nil) pa_nil)) (by rfl))
  (pss_cons (ps_for PassesOwn.never rfl (pi_list (pe_lst (pa_cons (pv 1) (pa_cons (pe_revT (pv 1)) pa_nil)))) (pg_name (i := 3) sc_hull_indexes.nd rfl (Or.inl rfl))
  (pss_cons (ps_set (i := 4) sc_hull_indexes.nd rfl (Or.inl rfl) (pe_lst pa_nil))
    (pss_cons (ps_for PassesOwn.never rfl (pi_tup (pv 3)) (pg_name (i := 5) sc_hull_indexes.nd rfl (Or.inl rfl))
    (pss_cons (ps_while PassesOwn.never (PW.pt (pw_and (pt_cmpR op_gt (pe_callB call_len_seq (by rfl) T.z_len (by decide +kernel) (pa_cons (pv 4) pa_nil)) pe_int (nomark _)) (pw_and1 (pt_cmpR op_le (pe_call (ok_turn_of T) (hr.mono (by decide)) (by rfl) T.g_turn_of T.F_turn_of.kp T.b_turn_of .nil pass0 (pa_cons (pe_ix ix_tup (pv 0) (pe_ix ix_list (pv 4) (pe_un un_neg pe_int) (fun _ _ => rfl)) (fun _ _ => rfl)) (pa_cons (pe_ix ix_tup (pv 0) (pe_ix ix_list (pv 4) (pe_un un_neg pe_int) (fun _ _ => rfl)) (fun _ _ => rfl)) (pa_cons (pe_ix ix_tup (pv 0) (pv 5) (fun _ _ => rfl)) pa_nil)))) pe_int (nomark _)))))
      (pss_one (ps_expr (pe_bm0 PySem.F.plainAttrs_list PySem.F.slot_list_pop PySem.F.type_list_pop mt_pop (pv 4)))))
      (pss_one (ps_expr (pe_bm PySem.F.plainAttrs_list PySem.F.slot_list_append PySem.F.type_list_append mt_append (pv 4) (pa_cons (pv 5) pa_nil))))))
    (pss_one (ps_expr (pe_bm PySem.F.plainAttrs_list PySem.F.slot_list_append PySem.F.type_list_append mt_append (pv 2) (pa_cons (pv 4) pa_nil)))))))
  (pss_one (ps_ret (pe_ifExp (pt_cmpR op_gt (pe_callB call_len_seq (by rfl) T.z_len (by decide +kernel) (pa_cons (pv 0) pa_nil)) pe_int (nomark _)) (pe_op op_cat (pe_slice sl_list (pe_ix ix_list (pv 2) pe_int (fun _ _ => rfl)) po_none (po_some (pe_un un_neg pe_int))) (pe_slice sl_list (pe_ix ix_list (pv 2) pe_int (fun _ _ => rfl)) po_none (po_some (pe_un un_neg pe_int)))) (pe_lst (pa_cons pe_int pa_nil))))))), ?_⟩
  rw [show L2.start nm_hull_indexes [v] = [some v, none, none, none, none, none] from rfl]
  have hn : ∀ p ∈ L, Nm p := fun p hp => (hL.ok p hp).nm
  have l1 := hL.l1
  have l2 := hL.l2
  obtain ⟨xs, hx, hxs⟩ := hd.tupE
  have hlen : xs.length = L.length := by rw [hxs.length, List.length_map]
  refine q_par (Z := Z) (by walk_at "w") (RA := fun us H3 => ∃ vr q B, us = [vr, .ref q] ∧ Xt Z H B ∧ Xt Z B H3 ∧ TuR Z (iV (rkOf L)) vr B ∧ Fr B q ∧ ¬ Z.S q ∧ H3 q = some (.lst []))
    (ea_consX (ev_ranked tw (by walk_at "ev") hd hL) fun vr H1 e1 r1 => ea_consX (en_lst' ea_nil (by simp)).fr fun vq H2 e2 ⟨q, hq1, hq2, hq3, hq4⟩ => ea_nilX fun H3 e3 => ?_) fun us H3 e3 ⟨vr, q, B, hus, eB, eB3, hrow, fq, nq, hq0⟩ => ⟨_, _, hus, ?_⟩
  · obtain ⟨rs, h1, h2⟩ := Da.tupE r1
    rw [show (rkOf L).map (fun (j : Nat) => PyData.int (j : Int)) = iD (rkOf L) from rfl] at h2
    rw [i_daL h2] at h1
    exact ⟨vr, q, H1, by rw [hq1], e1, e2.trans e3, h1, hq2, hq3, e3.kp _ _ hq3 hq4.1⟩
  show tSeq _ _ _ [some v, some vr, some (.ref q), none, none, none] H3
  refine q_forNL (Z := Z) (by walk_at "w") (RN := fun x H4 => ∃ a vrev, x = .ref a ∧ a ≠ q ∧ H4 a = some (.lst [vr, vrev]) ∧ ¬ Z.S a ∧ TuR Z (iV (rkOf L).reverse) vrev H4) ?_ fun x H4 e4 ⟨a, vrev, hx4, haq, ha4, na, hrev⟩ => ?_
  · intro H4 e4 Q q4
    refine (en_lst (Z := Z) (RA := fun us H5 => ∃ vrev, us = [vr, vrev] ∧ TuR Z (iV (rkOf L).reverse) vrev H5) (ea_consX (by walk_at "ev") fun w1 H5 e5 h5 => ea_consX (ev_revT (by walk_at "ev") (hrow.mono (eB3.trans e5))) fun w2 H6 e6 h6 => ea_nilX fun H7 e7 => ⟨w2, by rw [h5], ?_⟩) (fun us H1 ⟨w, hw, _⟩ => by rw [hw]; simp)) H4 e4 Q fun p H5 n5 ns5 e5 ⟨us, H6, ⟨vrev, hus, hv⟩, _, e6, hp, _⟩ => q4 _ _ e5 ⟨p, vrev, rfl, fun z => ?_, by rw [hp, hus], ns5, hv.mono e6⟩
    · have := h6.mono e7
      rw [show (iV (rkOf L)).reverse = iV (rkOf L).reverse from (List.map_reverse ..).symm] at this
      exact this
    · exact n5.ne (e4.kp _ _ nq hq0) z.symm
  subst hx4
  have e4B := eB3.trans e4
  refine ⟨[vr, vrev], ⟨a, rfl, ha4, na⟩, fun i σ' H' => ∃ (y3 y4 y5 : Option V) (hs : List Addr), σ' = [some v, some vr, some (.ref q), y3, y4, y5] ∧ Xt Z B H' ∧ hs.length = i ∧ H' q = some (.lst (hs.map .ref)) ∧ (∀ (k : Nat) b, hs[k]? = some b → b ≠ q ∧ ¬ Z.S b ∧ H' b = some (.lst (iV (halfI L k)))) ∧ H' a = some (.lst [vr, vrev]) ∧ TuR Z (iV (rkOf L).reverse) vrev H', ?_, ?_, ?_, ?_⟩
  · exact ⟨none, none, none, [], rfl, e4B, rfl, e4.kp _ _ nq hq0, fun k b h => by simp at h, ha4, hrev⟩
  · rintro i σ' H' ⟨_, _, _, _, _, _, _, _, _, h, _⟩
    exact ⟨a, rfl, h, na⟩
  · rintro i y σ' H' hy ⟨y3, y4, y5, hs, rfl, e5, hsl, hq5, hs5, ha5, hrev5⟩
    -- the turn's row
    obtain ⟨js, hjs, hjn, hhalf, hyt⟩ : ∃ js, js.length ≤ 40 ∧ (∀ j ∈ js, j < L.length) ∧ halfI L i = (chainI (gt L) [] js).reverse ∧ TuR Z (iV js) y H' := by
      match i, hy with
      | 0, hy =>
        cases hy
        exact ⟨rkOf L, by rw [rk_len]; exact l2, fun j hj => rk_mem hj, rfl, hrow.mono e5⟩
      | 1, hy =>
        cases hy
        exact ⟨(rkOf L).reverse, by rw [List.length_reverse, rk_len]; exact l2, fun j hj => rk_mem (List.mem_reverse.mp hj), rfl, hrev5⟩
    show tSeq _ _ _ [some v, some vr, some (.ref q), some y, y4, y5] H'
    refine q_asgN (Z := Z) (by walk_at "w") (en_lst' ea_nil (by simp)) fun h H6 fh nh e6 ⟨hh6, _⟩ => ?_
    show tSeq _ _ _ [some v, some vr, some (.ref q), some y, some (.ref h), y5] H6
    refine q_forT (Z := Z) (vs := iV js) (by walk_at "w") (by walk_at "ev") (hyt.mono e6) (fun j σ' H7 => ∃ y5, σ' = [some v, some vr, some (.ref q), some y, some (.ref h), y5] ∧ Xt Z H' H7 ∧ H7 h = some (.lst (iV (chainI (gt L) [] (js.take j)).reverse)))
      (fun H7 e7 => ⟨y5, rfl, e6.trans e7, e7.kp _ _ nh hh6⟩) (fun j σ' H7 ⟨_, _, e7, _⟩ => hyt.mono e7) (fun j yj σ' H7 hyj ⟨y5', es, e7, hh7⟩ => ?_) (fun σ' H7 ⟨y5', es, e7, hh7⟩ => ?_)
    · subst es
      obtain ⟨j0, hj0, rfl⟩ := iV_get' hyj
      have j0n := hjn j0 (List.mem_of_getElem? hj0)
      have jl : j < js.length := (List.getElem?_eq_some_iff.mp hj0).1
      obtain ⟨pv, _, hpv, hpp⟩ := atPt hxs (gt_get j0n)
      have np := hn _ (gt_mem j0n)
      have et : js.take (j + 1) = js.take j ++ [j0] := by rw [List.take_succ, hj0]; rfl
      show tSeq _ _ _ [some v, some vr, some (.ref q), some y, some (.ref h), some (.int (j0 : Int))] H7
      refine q_while (Z := Z) (fun m σ' H8 => ∃ st, σ' = [some v, some vr, some (.ref q), some y, some (.ref h), some (.int (j0 : Int))] ∧ m = st.length ∧ Xt Z H' H8 ∧ H8 h = some (.lst (iV st.reverse)) ∧ (∀ k ∈ st, k < L.length) ∧ st.length ≤ 40 ∧ popI (gt L) (gt L j0) st = popI (gt L) (gt L j0) (chainI (gt L) [] (js.take j))) _
        ⟨chainI (gt L) [] (js.take j), rfl, rfl, e7, hh7, half_sub fun k hk => hjn k (List.mem_of_mem_take hk), by
          have := chainI_len (gt L) (js.take j) []
          rw [List.length_take] at this
          simp only [List.length_nil] at this
          omega, rfl⟩ fun m σ' H8 ⟨st, es, hm, e8, hh8, hst, hst40, hpop⟩ => ?_
      subst es
      have hx8 := hx.mono (eB.trans (e5.trans e8))
      have pp8 := hpp.mono (eB.trans (e5.trans e8))
      have hl8 : LiR Z (iV st.reverse) (.ref h) H8 := ⟨h, rfl, hh8, nh⟩
      have fin : popI (gt L) (gt L j0) st = st → ∀ H9, Xt Z H8 H9 → tDrop (tBM K "list" rAppend (tVar 4) (tCons (tVar 5) tNil)) { nx := fun σ' H7 => ∃ y5, σ' = [some v, some vr, some (.ref q), some y, some (.ref h), y5] ∧ Xt Z H' H7 ∧ H7 h = some (.lst (iV (chainI (gt L) [] (js.take (j + 1))).reverse)), rt := Q, bk := fun _ _ => False, ct := fun _ _ => False } [some v, some vr, some (.ref q), some y, some (.ref h), some (.int (j0 : Int))] H9 := fun hst H9 e9 => by
        refine s_app (Z := Z) (l := h) (xs := iV st.reverse) (by walk_at "w") (e9.kp _ _ nh hh8) nh (by walk_at "ev") (by walk_at "ev") (by rw [iV_len, List.length_reverse]; omega) fun w H10 e10 hw10 hh10 => ?_
        subst hw10
        refine ⟨_, rfl, Xt.mut (e8.trans (e9.trans e10)) fh nh hh10, ?_⟩
        rw [upd_same, et, chainI_app]
        show some (HO.lst (iV st.reverse ++ iV [j0])) = some (HO.lst (iV (j0 :: popI (gt L) (gt L j0) (chainI (gt L) [] (js.take j))).reverse))
        rw [← hpop, hst, List.reverse_cons, iV_app]
      match st, hst, hst40, hpop, hh8, hl8, hm, fin with
      | [], _, _, hpop, hh8, hl8, hm, fin =>
        exact ⟨e8.w2, false, et_is (et_and (b := false) (et_test (by walk_at "ev")) (fun h => absurd h (by simp [iV]))) (Bool.and_false _), (fun h => nomatch h), fun _ H9 e9 => fin rfl H9 e9⟩
      | [h1], _, _, hpop, hh8, hl8, hm, fin =>
        exact ⟨e8.w2, false, et_is (et_and (b := false) (et_test (by walk_at "ev")) (fun h => absurd h (by simp [iV]))) (Bool.and_false _), (fun h => nomatch h), fun _ H9 e9 => fin rfl H9 e9⟩
      | h1 :: h2 :: r, hst, hst40, hpop, hh8, hl8, hm, fin =>
        have n1 := hst h1 (by simp)
        have n2 := hst h2 (by simp)
        have np1 := hn _ (gt_mem n1)
        have np2 := hn _ (gt_mem n2)
        obtain ⟨y1, _, hy1, hp1⟩ := atPt hxs (gt_get n1)
        obtain ⟨y2, _, hy2, hp2⟩ := atPt hxs (gt_get n2)
        have pp1 := hp1.mono (eB.trans (e5.trans e8))
        have pp2 := hp2.mono (eB.trans (e5.trans e8))
        have ev : iV (h1 :: h2 :: r).reverse = iV r.reverse ++ [.int (h2 : Int), .int (h1 : Int)] := by
          rw [List.reverse_cons, List.reverse_cons, List.append_assoc, iV_app]; rfl
        have i1 : atI (iV (h1 :: h2 :: r).reverse) (-1) = some (.int (h1 : Int)) := by
          rw [ev, show iV r.reverse ++ [V.int (h2 : Int), .int (h1 : Int)] = (iV r.reverse ++ [.int (h2 : Int)]) ++ [.int (h1 : Int)] by simp]
          exact at_last
        have i2 : atI (iV (h1 :: h2 :: r).reverse) (-2) = some (.int (h2 : Int)) := by
          rw [ev]
          exact at_last2
        have hlen2 : (1 : Int) < ((iV (h1 :: h2 :: r).reverse).length : Int) := by
          rw [iV_len, List.length_reverse]
          simp only [List.length_cons]
          omega
        refine ⟨e8.w2, decide (det (gt L h2) (gt L h1) (gt L j0) ≤ 0), et_is (by walk_at "et") ?_, fun hb H9 e9 => ?_, fun hb H9 e9 => ?_⟩
        · rw [decide_eq_true hlen2]
          have hs : (sgn (det (gt L h2) (gt L h1) (gt L j0)) ≤ 0) ↔ det (gt L h2) (gt L h1) (gt L j0) ≤ 0 := by
            have := sgn_pos (det (gt L h2) (gt L h1) (gt L j0))
            omega
          simp [hs]
        · have hle : det (gt L h2) (gt L h1) (gt L j0) ≤ 0 := by simpa using hb
          refine s_pop (Z := Z) (l := h) (xs := iV (h1 :: h2 :: r).reverse) (y := .int (h1 : Int)) (by walk_at "w") (e9.kp _ _ nh hh8) nh (by walk_at "ev") ?_ fun H10 e10 hh10 => ?_
          · rw [ev]
            simp
          · refine ⟨(h2 :: r).length, by rw [hm]; simp, h2 :: r, rfl, rfl, Xt.mut (e8.trans (e9.trans e10)) fh nh hh10, ?_, fun k hk => hst k (List.mem_cons_of_mem _ hk), by simp at hst40 ⊢; omega, ?_⟩
            · rw [upd_same, ev, List.reverse_cons, iV_app]
              simp [iV]
            · rw [← hpop]
              show _ = popI (gt L) (gt L j0) (h1 :: h2 :: r)
              rw [popI, if_pos hle]
        · have hgt : ¬ det (gt L h2) (gt L h1) (gt L j0) ≤ 0 := by simpa using hb
          exact fin (by rw [popI, if_neg hgt]) H9 e9
    · subst es
      rw [iV_len, List.take_length] at hh7
      have hq7 := e7.kp _ _ nq hq5
      have hne : q ≠ h := fh.ne hq5
      refine s_app (Z := Z) (l := q) (xs := hs.map .ref) (by walk_at "w") hq7 nq (by walk_at "ev") (by walk_at "ev") (by rw [List.length_map, hsl]; have := (List.getElem?_eq_some_iff.mp hy).1; simp at this; omega) fun w H8 e8 hw8 hq8 => ?_
      subst hw8
      have e58 := e7.trans e8
      refine ⟨_, _, _, hs ++ [h], rfl, Xt.mut (e5.trans e58) fq nq hq8, by simp [hsl], by rw [upd_same]; simp, fun k b hk => ?_, ?_, ?_⟩
      · by_cases hkl : k < hs.length
        · rw [List.getElem?_append_left hkl] at hk
          obtain ⟨k1, k2, k3⟩ := hs5 k b hk
          refine ⟨k1, k2, ?_⟩
          rw [upd_ne k1]
          exact e58.kp _ _ k2 k3
        · have hkl2 : k = hs.length := by
            have := (List.getElem?_eq_some_iff.mp hk).1
            simp at this
            omega
          subst hkl2
          simp at hk
          subst hk
          refine ⟨Ne.symm hne, nh, ?_⟩
          rw [upd_ne (Ne.symm hne), hsl, hhalf]
          exact e8.kp _ _ nh hh7
      · rw [upd_ne haq]
        exact e58.kp _ _ na ha5
      · exact TuR.mut hq8 (hrev5.mono e58)
  · rintro σ' H' ⟨y3, y4, y5, hs, rfl, e5, hsl, hq5, hs5, ha5, hrev5⟩
    have hx5 := hx.mono (eB.trans e5)
    obtain ⟨h0, h1, rfl⟩ : ∃ h0 h1, hs = [h0, h1] := by
      match hs, hsl with
      | [h0, h1], _ => exact ⟨h0, h1, rfl⟩
    obtain ⟨_, m0, k0⟩ := hs5 0 h0 rfl
    obtain ⟨_, m1, k1⟩ := hs5 1 h1 rfl
    have hq5' : LiR Z [.ref h0, .ref h1] (.ref q) H' := ⟨q, rfl, hq5, nq⟩
    refine s_ret (Z := Z) (R := DaR Z (.list (iD (hullI L)))) (by walk_at "w") (ev_if (by walk_at "et") (fun hb => ?_) (fun hb => ?_)) fun w H6 e6 r6 => hq _ _ (eB.trans (e5.trans e6)) r6
    · have hb2 : 1 < L.length := by
        have : (1 : Int) < (L.length : Int) := by simpa [hlen] using hb
        omega
      have key : ∀ (js : List Nat) (b : Addr) (te : TE), H' b = some (.lst (iV js)) → ¬ Z.S b → Ev Z te [some v, some vr, some (.ref q), y3, y4, y5] H' (IsV (.ref b)) → Ev Z (tSl (rSlL K) te tNoPart (tPart (tUn (rU fun i => .int (-i)) (tC (.int 1))))) [some v, some vr, some (.ref q), y3, y4, y5] H' (DaR Z (.list (iD js.dropLast))) := fun js b te hb nb he => by
        refine (en_slL he (xs := iV js) (fun w H6 e6 hw => ⟨b, hw, e6.kp _ _ nb hb, nb⟩) eo_none (eo_some (i := -1) (by walk_at "ev"))).ev fun p H6 e6 _ ⟨h1, h2⟩ => .lst h1 h2 ?_
        rw [cut_last, show (iV js).dropLast = iV js.dropLast from (List.map_dropLast ..).symm]
        exact daL_i _
      unfold hullI
      rw [if_pos hb2, show iD ((halfI L 0).dropLast ++ (halfI L 1).dropLast) = iD (halfI L 0).dropLast ++ iD (halfI L 1).dropLast from List.map_append]
      refine ev_cat (key _ h0 _ k0 m0 (by walk_at "ev")) (key _ h1 _ k1 m1 (by walk_at "ev")) ?_
      have k1 := half_len L 0
      have k2 := half_len L 1
      simp only [iD, List.length_map, List.length_dropLast]
      omega
    · have hb2 : ¬ 1 < L.length := by
        have : (L.length : Int) ≤ 1 := by simpa [hlen] using hb
        omega
      unfold hullI
      rw [if_neg hb2]
      exact ev_lstD (ds := [.int 0]) (ea_consD (ev_da (by walk_at "ev") (.int 0)) ea_nilD) (by decide)
end
end Hk
/-! ## G4 -/
/-! weights -/
namespace Hk
def rx (p : Pt) : Rat := Rat.divInt p.x p.w
def ry (p : Pt) : Rat := Rat.divInt p.y p.w
def tsum (ws : List Rat) : Rat := ws.foldl (· + ·) 0
def dsum (f : Nat → Rat) (q : List (Rat × Nat)) : Rat := q.foldl (fun s e => s + e.1 * f e.2) 0
structure Wt (L : List Pt) (js : List Nat) (p : Pt) (ws : List Rat) : Prop where
  len : ws.length = js.length
  pos : ∀ w ∈ ws, 0 < w
  tot : tsum ws = 1
  x : dsum (fun j => rx (gt L j)) (ws.zip js) = rx p
  y : dsum (fun j => ry (gt L j)) (ws.zip js) = ry p
/-- p strictly between a and b -/
def inSeg (a b p : Pt) : Prop := det a b p = 0 ∧ ((plt a p ∧ plt p b) ∨ (plt b p ∧ plt p a))
def inTri (a b c p : Pt) : Prop := 0 < det p b c * det a b c ∧ 0 < det a p c * det a b c ∧ 0 < det a b p * det a b c
theorem det_l (a b p : Pt) : det a b p * a.w = lx a b * ly a p - lx a p * ly a b := by unfold det lx ly; grind
theorem lx_add (a p b : Pt) : lx a b * p.w = lx a p * b.w + lx p b * a.w := by unfold lx; grind
theorem ly_add (a p b : Pt) : ly a b * p.w = ly a p * b.w + ly p b * a.w := by unfold ly; grind
theorem pos2 {a b : Int} (h : 0 < a * b) (hb : 0 < b) : 0 < a := by
  rcases Int.lt_or_le 0 a with h1 | h1
  · exact h1
  · have := Int.mul_le_mul_of_nonneg_right h1 (Int.le_of_lt hb)
    omega
theorem mul0 {a b : Int} (h : a * b = 0) (hb : b ≠ 0) : a = 0 := by
  rcases Int.mul_eq_zero.mp h with h | h
  · exact h
  · exact absurd h hb
theorem seg1 {a b p : Pt} (wa : 0 < a.w) (wb : 0 < b.w) (wp : 0 < p.w) (hd : det a b p = 0) (h1 : plt a p) (h2 : plt p b) :
    (lx a b ≠ 0 → 0 < lx a p ∧ 0 < lx p b ∧ 0 < lx a b) ∧ (lx a b = 0 → lx a p = 0 ∧ lx p b = 0 ∧ 0 < ly a p ∧ 0 < ly p b ∧ 0 < ly a b) := by
  have e1 := lx_add a p b
  have e2 := ly_add a p b
  have d1 := det_l a b p
  rw [hd, Int.zero_mul] at d1
  have nx1 : 0 ≤ lx a p := by unfold plt at h1; omega
  have nx2 : 0 ≤ lx p b := by unfold plt at h2; omega
  have q1 := Int.mul_nonneg nx1 (Int.le_of_lt wb)
  have q2 := Int.mul_nonneg nx2 (Int.le_of_lt wa)
  constructor
  · intro h0
    have p1 : lx a p ≠ 0 := fun z => by
      rw [z, Int.zero_mul] at d1
      have : ly a p = 0 := mul0 (a := ly a p) (b := lx a b) (by rw [Int.mul_comm]; omega) h0
      unfold plt at h1
      omega
    have p2 : lx p b ≠ 0 := fun z => by
      -- then b and p at one place along x: det a b p gives ly p b = 0
      have d2 : lx a b * ly p b = lx p b * ly a b := by
        have e : det a b p * b.w = lx p b * ly a b - lx a b * ly p b := by unfold det lx ly; grind
        rw [hd, Int.zero_mul] at e
        omega
      rw [z, Int.zero_mul] at d2
      have : ly p b = 0 := mul0 (a := ly p b) (b := lx a b) (by rw [Int.mul_comm]; exact d2) h0
      unfold plt at h2
      omega
    have k1 : 0 < lx a p := by omega
    have k2 : 0 < lx p b := by omega
    have m1 := Int.mul_pos k1 wb
    have m2 := Int.mul_pos k2 wa
    exact ⟨k1, k2, pos_of e1 wp (by omega)⟩
  · intro h0
    rw [h0, Int.zero_mul] at e1
    have z1 : lx a p * b.w = 0 := by omega
    have z2 : lx p b * a.w = 0 := by omega
    have z1 := mul0 z1 (by omega)
    have z2 := mul0 z2 (by omega)
    have k1 : 0 < ly a p := by unfold plt at h1; omega
    have k2 : 0 < ly p b := by unfold plt at h2; omega
    have m1 := Int.mul_pos k1 wb
    have m2 := Int.mul_pos k2 wa
    exact ⟨z1, z2, k1, k2, pos_of e2 wp (by omega)⟩
/-- the plain numbers of a place strictly between -/
theorem seg2 {a b p : Pt} (wa : 0 < a.w) (wb : 0 < b.w) (wp : 0 < p.w) (h : inSeg a b p) :
    (lx a b ≠ 0 → 0 < lx a p * lx a b ∧ 0 < lx p b * lx a b) ∧ (lx a b = 0 → lx a p = 0 ∧ lx p b = 0 ∧ ly a b ≠ 0 ∧ 0 < ly a p * ly a b ∧ 0 < ly p b * ly a b) := by
  obtain ⟨hd, ⟨h1, h2⟩ | ⟨h1, h2⟩⟩ := h
  · obtain ⟨k1, k2⟩ := seg1 wa wb wp hd h1 h2
    constructor
    · intro h0
      obtain ⟨a1, a2, a3⟩ := k1 h0
      exact ⟨Int.mul_pos a1 a3, Int.mul_pos a2 a3⟩
    · intro h0
      obtain ⟨a1, a2, a3, a4, a5⟩ := k2 h0
      exact ⟨a1, a2, by omega, Int.mul_pos a3 a5, Int.mul_pos a4 a5⟩
  · have hd' : det b a p = 0 := by rw [det_sw]; omega
    obtain ⟨k1, k2⟩ := seg1 wb wa wp hd' h1 h2
    rw [lx_sw a b, ly_sw a b, lx_sw p b, ly_sw p b, lx_sw a p, ly_sw a p] at *
    constructor
    · intro h0
      obtain ⟨a1, a2, a3⟩ := k1 (by omega)
      exact ⟨by have := Int.mul_pos a2 a3; rw [Int.neg_mul_neg] at this; exact this, by have := Int.mul_pos a1 a3; rw [Int.neg_mul_neg] at this; exact this⟩
    · intro h0
      obtain ⟨a1, a2, a3, a4, a5⟩ := k2 (by omega)
      exact ⟨by omega, by omega, by omega, by have := Int.mul_pos a4 a5; rw [Int.neg_mul_neg] at this; exact this, by have := Int.mul_pos a3 a5; rw [Int.neg_mul_neg] at this; exact this⟩
theorem inSeg.ne {a b p : Pt} (h : inSeg a b p) : p ≠ a ∧ p ≠ b := by
  obtain ⟨_, ⟨h1, h2⟩ | ⟨h1, h2⟩⟩ := h
  · exact ⟨fun e => plt_irr a (e ▸ h1), fun e => plt_irr b (e ▸ h2)⟩
  · exact ⟨fun e => plt_irr a (e ▸ h2), fun e => plt_irr b (e ▸ h1)⟩
theorem inSeg.sw {a b p : Pt} (h : inSeg a b p) : inSeg b a p := ⟨by rw [det_sw]; have := h.1; omega, h.2.symm⟩
theorem plt_trans {a b c : Pt} (wa : 0 < a.w) (wb : 0 < b.w) (wc : 0 < c.w) (h1 : plt a b) (h2 : plt b c) : plt a c := by
  have e1 := lx_add a b c
  have e2 := ly_add a b c
  unfold plt at *
  have n1 : 0 ≤ lx a b := by omega
  have n2 : 0 ≤ lx b c := by omega
  have q1 := Int.mul_nonneg n1 (Int.le_of_lt wc)
  have q2 := Int.mul_nonneg n2 (Int.le_of_lt wa)
  rcases Int.lt_or_eq_of_le n1 with g1 | g1
  · left
    have := Int.mul_pos g1 wc
    exact pos_of e1 wb (by omega)
  · rcases Int.lt_or_eq_of_le n2 with g2 | g2
    · left
      have := Int.mul_pos g2 wa
      exact pos_of e1 wb (by omega)
    · right
      rw [← g1, ← g2, Int.zero_mul, Int.zero_mul] at e1
      have z := mul0 (a := lx a c) (b := b.w) (by omega) (by omega)
      have m1 := Int.mul_pos (show 0 < ly a b by omega) wc
      have m2 := Int.mul_pos (show 0 < ly b c by omega) wa
      exact ⟨z, pos_of e2 wb (by omega)⟩

/-! ### the weights -/
theorem rcancel {k x y : Rat} (hk : k ≠ 0) (h : k * x = k * y) : x = y := by
  have e : ∀ z : Rat, z = k⁻¹ * (k * z) := fun z => by grind
  rw [e x, e y, h]
theorem cast_ne {n : Int} (h : n ≠ 0) : (n : Rat) ≠ 0 := fun z => h (Rat.intCast_inj.mp z)
theorem cast_pos {n : Int} (h : 0 < n) : (0 : Rat) < (n : Rat) := Rat.intCast_lt_intCast.mpr h
theorem rat_num {n d : Int} (h : d ≠ 0) : Rat.divInt n d * (d : Rat) = (n : Rat) := by
  have := cast_ne h
  rw [Rat.divInt_eq_div]
  grind
theorem rpos_of {x k r : Rat} (e : x * k = r) (hk : 0 < k) (hr : 0 < r) : 0 < x := by
  by_cases h : 0 < x
  · exact h
  · have h1 : x * k ≤ 0 * k := Rat.mul_le_mul_of_nonneg_right (Rat.not_lt.mp h) (Rat.le_of_lt hk)
    rw [e, Rat.zero_mul] at h1
    exact absurd hr (Rat.not_lt.mpr h1)
theorem rat_pos {n d : Int} (h : 0 < n * d) : 0 < Rat.divInt n d := by
  have hd : d ≠ 0 := fun z => by rw [z] at h; omega
  have h2 : (0 : Rat) < ((n * d : Int) : Rat) := cast_pos h
  have h3 : (0 : Rat) < ((d * d : Int) : Rat) := cast_pos (by
    rcases Int.lt_or_le 0 d with g | g
    · exact Int.mul_pos g g
    · have := Int.mul_pos (show 0 < -d by omega) (show 0 < -d by omega)
      rw [Int.neg_mul_neg] at this
      exact this)
  have e := rat_num (n := n) hd
  rw [Rat.intCast_mul] at h2 h3
  have e2 : Rat.divInt n d * ((d : Rat) * d) = n * d := by rw [← e]; grind
  exact rpos_of e2 h3 h2
theorem x_r {p : Pt} (h : 0 < p.w) : (p.x : Rat) = rx p * p.w := (rat_num (by omega)).symm
theorem y_r {p : Pt} (h : 0 < p.w) : (p.y : Rat) = ry p * p.w := (rat_num (by omega)).symm
def dR (a b c : Pt) : Rat := rx a * (ry b - ry c) - ry a * (rx b - rx c) + (rx b * ry c - rx c * ry b)
theorem lx_r {a b : Pt} (wa : 0 < a.w) (wb : 0 < b.w) : ((lx a b : Int) : Rat) = a.w * b.w * (rx b - rx a) := by
  unfold lx
  rw [Rat.intCast_sub, Rat.intCast_mul, Rat.intCast_mul, x_r wa, x_r wb]
  grind
theorem ly_r {a b : Pt} (wa : 0 < a.w) (wb : 0 < b.w) : ((ly a b : Int) : Rat) = a.w * b.w * (ry b - ry a) := by
  unfold ly
  rw [Rat.intCast_sub, Rat.intCast_mul, Rat.intCast_mul, y_r wa, y_r wb]
  grind
theorem det_r {a b c : Pt} (wa : 0 < a.w) (wb : 0 < b.w) (wc : 0 < c.w) : ((det a b c : Int) : Rat) = a.w * b.w * c.w * dR a b c := by
  unfold det dR
  simp only [Rat.intCast_add, Rat.intCast_sub, Rat.intCast_mul, x_r wa, x_r wb, x_r wc, y_r wa, y_r wb, y_r wc]
  grind
theorem w_ne {p : Pt} (h : 0 < p.w) : (p.w : Rat) ≠ 0 := cast_ne (by omega)
theorem rmul_ne {a b : Rat} (ha : a ≠ 0) (hb : b ≠ 0) : a * b ≠ 0 := fun h => by
  rcases Rat.mul_eq_zero.mp h with h | h
  · exact ha h
  · exact hb h
/-- two weights: t for a, 1 - t for b -/
theorem two_x {a b p : Pt} (wa : 0 < a.w) (wb : 0 < b.w) (wp : 0 < p.w) (hd : det a b p = 0) (h0 : lx a b ≠ 0) (h1 : 0 < lx a p * lx a b) (h2 : 0 < lx p b * lx a b) {t : Rat}
    (ht : t = Rat.divInt (lx p b * a.w) (lx a b * p.w)) : 0 < t ∧ 0 < 1 - t ∧ t * rx a + (1 - t) * rx b = rx p ∧ t * ry a + (1 - t) * ry b = ry p := by
  have ka := w_ne wa
  have kb := w_ne wb
  have kp := w_ne wp
  have hD : lx a b * p.w ≠ 0 := fun z => h0 (mul0 z (by omega))
  have e := rat_num (n := lx p b * a.w) hD
  rw [← ht, Rat.intCast_mul, Rat.intCast_mul, lx_r wa wb, lx_r wp wb] at e
  have e1 : t * (rx b - rx a) = rx b - rx p := by
    refine rcancel (rmul_ne (rmul_ne ka kb) kp) ?_
    grind
  have kd : (a.w * b.w * p.w : Rat) * dR a b p = 0 := by rw [← det_r wa wb wp, hd]; rfl
  have kd2 : dR a b p = 0 := rcancel (rmul_ne (rmul_ne ka kb) kp) (by rw [kd]; grind)
  have k0 : rx b - rx a ≠ 0 := fun z => cast_ne h0 (by rw [lx_r wa wb, z]; grind)
  have t1 : 1 - t = Rat.divInt (lx a p * b.w) (lx a b * p.w) := by
    refine rcancel (k := ((lx a b * p.w : Int) : Rat)) (cast_ne hD) ?_
    have e3 := rat_num (n := lx a p * b.w) hD
    rw [Rat.mul_comm _ (Rat.divInt _ _), e3, Rat.intCast_mul, Rat.intCast_mul, lx_r wa wb, lx_r wa wp]
    grind
  refine ⟨?_, ?_, ?_, ?_⟩
  · rw [ht]
    refine rat_pos ?_
    have := Int.mul_pos h2 (Int.mul_pos wa wp)
    have e : lx p b * a.w * (lx a b * p.w) = lx p b * lx a b * (a.w * p.w) := by grind
    omega
  · rw [t1]
    refine rat_pos ?_
    have := Int.mul_pos h1 (Int.mul_pos wb wp)
    have e : lx a p * b.w * (lx a b * p.w) = lx a p * lx a b * (b.w * p.w) := by grind
    omega
  · grind
  · refine rcancel k0 ?_
    unfold dR at kd2
    grind
theorem two_y {a b p : Pt} (wa : 0 < a.w) (wb : 0 < b.w) (wp : 0 < p.w) (x1 : lx a p = 0) (x2 : lx p b = 0) (h0 : ly a b ≠ 0) (h1 : 0 < ly a p * ly a b) (h2 : 0 < ly p b * ly a b) {t : Rat}
    (ht : t = Rat.divInt (ly p b * a.w) (ly a b * p.w)) : 0 < t ∧ 0 < 1 - t ∧ t * rx a + (1 - t) * rx b = rx p ∧ t * ry a + (1 - t) * ry b = ry p := by
  have ka := w_ne wa
  have kb := w_ne wb
  have kp := w_ne wp
  have hD : ly a b * p.w ≠ 0 := fun z => h0 (mul0 z (by omega))
  have e := rat_num (n := ly p b * a.w) hD
  rw [← ht, Rat.intCast_mul, Rat.intCast_mul, ly_r wa wb, ly_r wp wb] at e
  have e1 : t * (ry b - ry a) = ry b - ry p := by
    refine rcancel (rmul_ne (rmul_ne ka kb) kp) ?_
    grind
  have z1 : rx p - rx a = 0 := rcancel (rmul_ne ka kp) (by rw [← lx_r wa wp, x1]; grind)
  have z2 : rx b - rx p = 0 := rcancel (rmul_ne kp kb) (by rw [← lx_r wp wb, x2]; grind)
  have t1 : 1 - t = Rat.divInt (ly a p * b.w) (ly a b * p.w) := by
    refine rcancel (k := ((ly a b * p.w : Int) : Rat)) (cast_ne hD) ?_
    have e3 := rat_num (n := ly a p * b.w) hD
    rw [Rat.mul_comm _ (Rat.divInt _ _), e3, Rat.intCast_mul, Rat.intCast_mul, ly_r wa wb, ly_r wa wp]
    grind
  refine ⟨?_, ?_, ?_, ?_⟩
  · rw [ht]
    refine rat_pos ?_
    have := Int.mul_pos h2 (Int.mul_pos wa wp)
    have e : ly p b * a.w * (ly a b * p.w) = ly p b * ly a b * (a.w * p.w) := by grind
    omega
  · rw [t1]
    refine rat_pos ?_
    have := Int.mul_pos h1 (Int.mul_pos wb wp)
    have e : ly a p * b.w * (ly a b * p.w) = ly a p * ly a b * (b.w * p.w) := by grind
    omega
  · grind
  · grind
theorem three {a b c p : Pt} (wa : 0 < a.w) (wb : 0 < b.w) (wc : 0 < c.w) (wp : 0 < p.w) (h0 : det a b c ≠ 0) {s t u : Rat}
    (hs : s = Rat.divInt (det p b c * a.w) (det a b c * p.w)) (ht : t = Rat.divInt (det a p c * b.w) (det a b c * p.w)) (hu : u = Rat.divInt (det a b p * c.w) (det a b c * p.w)) :
    s + t + u = 1 ∧ s * rx a + t * rx b + u * rx c = rx p ∧ s * ry a + t * ry b + u * ry c = ry p := by
  have ka := w_ne wa
  have kb := w_ne wb
  have kc := w_ne wc
  have kp := w_ne wp
  have hD : det a b c * p.w ≠ 0 := fun z => h0 (mul0 z (by omega))
  have kK := rmul_ne (rmul_ne ka kb) (rmul_ne kc kp)
  have k0 : dR a b c ≠ 0 := fun z => cast_ne h0 (by rw [det_r wa wb wc, z]; grind)
  have es : s * dR a b c = dR p b c := by
    have e := rat_num (n := det p b c * a.w) hD
    rw [← hs, Rat.intCast_mul, Rat.intCast_mul, det_r wa wb wc, det_r wp wb wc] at e
    exact rcancel kK (by grind)
  have et : t * dR a b c = dR a p c := by
    have e := rat_num (n := det a p c * b.w) hD
    rw [← ht, Rat.intCast_mul, Rat.intCast_mul, det_r wa wb wc, det_r wa wp wc] at e
    exact rcancel kK (by grind)
  have eu : u * dR a b c = dR a b p := by
    have e := rat_num (n := det a b p * c.w) hD
    rw [← hu, Rat.intCast_mul, Rat.intCast_mul, det_r wa wb wc, det_r wa wb wp] at e
    exact rcancel kK (by grind)
  refine ⟨rcancel k0 ?_, rcancel k0 ?_, rcancel k0 ?_⟩
  · have e : dR a b c * (s + t + u) = dR p b c + dR a p c + dR a b p := by grind
    rw [e]
    unfold dR; grind
  · have e : dR a b c * (s * rx a + t * rx b + u * rx c) = dR p b c * rx a + dR a p c * rx b + dR a b p * rx c := by grind
    rw [e]
    unfold dR; grind
  · have e : dR a b c * (s * ry a + t * ry b + u * ry c) = dR p b c * ry a + dR a p c * ry b + dR a b p * ry c := by grind
    rw [e]
    unfold dR; grind
theorem three_pos {a b c p : Pt} (wa : 0 < a.w) (wp : 0 < p.w) {d : Int} (h : 0 < d * det a b c) : 0 < Rat.divInt (d * a.w) (det a b c * p.w) := by
  refine rat_pos ?_
  have := Int.mul_pos h (Int.mul_pos wa wp)
  have e : d * a.w * (det a b c * p.w) = d * det a b c * (a.w * p.w) := by grind
  omega
end Hk
/-! ## F9 -/
namespace Hk
open PySem PySem.Spec PyProof.Rows L2
local macro_rules | `(tactic| walk_at "bd") => `(tactic| first
  | assumption
  | exact (show B 64 _ from by unfold B; decide)
  | (refine' B.mul ?b1 ?b2; (case b1 => walk_at "bd"); (case b2 => walk_at "bd"))
  | (refine' B.sub ?b1 ?b2; (case b1 => walk_at "bd"); (case b2 => walk_at "bd"))
  | (refine' B.add ?b1 ?b2; (case b1 => walk_at "bd"); (case b2 => walk_at "bd"))
  | (refine' B.neg ?b1; (case b1 => walk_at "bd")))
local macro_rules | `(tactic| walk_at "da") => `(tactic| first
  | assumption
  | exact Da.int _
  | exact Da.non
  | exact Da.bl _
  | exact Da.str _
  | ((with_reducible refine' P3.mono (by assumption) ?d1); (case d1 => walk_at "da"))
  | ((with_reducible refine' Ra.mono (by assumption) ?d1); (case d1 => walk_at "da"))
  | ((with_reducible refine' TuR.mono (by assumption) ?d1); (case d1 => walk_at "da"))
  | ((with_reducible refine' LiR.mono (by assumption) ?d1); (case d1 => walk_at "da"))
  | ((with_reducible refine' Da.mono (by assumption) ?d1); (case d1 => walk_at "da")))
local macro_rules | `(tactic| walk_at "xt") => `(tactic| first
  | assumption
  | (refine' Xt.trans ?x1 (by assumption); (case x1 => walk_at "xt")))
local macro_rules | `(tactic| walk_at "w") => `(tactic| first
  | assumption
  | exact Xt.w2 (by assumption)
  | exact Xt.w1 (by assumption))
local macro_rules | `(tactic| walk_at "side") => `(tactic| first
  | assumption
  | (refine' B.cmul ?b1 ?b2 ?b3; (case b1 => walk_at "bd"); (case b2 => walk_at "bd"); (case b3 => first | decide | omega))
  | (refine' B.cdiv ?b1 ?b2 ?b3; (case b1 => assumption); (case b2 => walk_at "bd"); (case b3 => first | decide | omega)))
local macro_rules | `(tactic| walk_at "ea") => `(tactic| first
  | with_reducible exact ea_nil
  | ((with_reducible refine' ea_cons ?p1 ?p2); (case p1 => walk_at "ev"); (case p2 => walk_at "ea")))
local macro_rules | `(tactic| walk_at "et") => `(tactic| first
  | ((with_reducible refine' et_and ?p1 ?p2); (case p1 => walk_at "et"); (case p2 => intro _; walk_at "et"))
  | ((with_reducible refine' et_or ?p1 ?p2); (case p1 => walk_at "et"); (case p2 => intro _; walk_at "et"))
  | ((with_reducible refine' et_not ?p1); (case p1 => walk_at "et"))
  | ((with_reducible refine' et_test ?p1); (case p1 => walk_at "ev"))
  | ((with_reducible refine' et_B ?p1); (case p1 => walk_at "ev")))
local macro_rules | `(tactic| walk_at "ev") => `(tactic| first
  | with_reducible exact ev_c
  | ((with_reducible refine' ev_var ?v1); (case v1 => exact rfl))
  | ((with_reducible refine' ev_px ?p1 ?p2 ?p3); (case p1 => walk_at "ev"); (case p2 => walk_at "da"); (case p3 => with_reducible exact ev_c))
  | ((with_reducible refine' ev_py ?p1 ?p2 ?p3); (case p1 => walk_at "ev"); (case p2 => walk_at "da"); (case p3 => with_reducible exact ev_c))
  | ((with_reducible refine' ev_pw ?p1 ?p2 ?p3); (case p1 => walk_at "ev"); (case p2 => walk_at "da"); (case p3 => with_reducible exact ev_c))
  | ((with_reducible refine' ev_ixT ?p1 ?p2 ?p3 ?p4); (case p1 => walk_at "ev"); (case p2 => walk_at "da"); (case p3 => walk_at "ev"); (case p4 => first | exact rfl | assumption))
  | ((with_reducible refine' ev_ixL ?p1 ?p2 ?p3 ?p4); (case p1 => walk_at "ev"); (case p2 => walk_at "da"); (case p3 => walk_at "ev"); (case p4 => first | exact rfl | assumption))
  | ((with_reducible refine' ev_i0 ?p1 ?p2); (case p1 => walk_at "ev"); (case p2 => walk_at "ev"))
  | ((with_reducible refine' ev_iC ?p1 ?p2 ?p3); (case p1 => walk_at "ev"); (case p2 => walk_at "ev"); (case p3 => walk_at "side"))
  | ((with_reducible refine' ev_neg ?p1); (case p1 => walk_at "ev"))
  | ((with_reducible refine' ev_eq ?p1 ?p2 ?p3); (case p1 => walk_at "ev"); (case p2 => walk_at "ev"); (case p3 => exact rfl))
  | ((with_reducible refine' ev_ne ?p1 ?p2 ?p3); (case p1 => walk_at "ev"); (case p2 => walk_at "ev"); (case p3 => exact rfl))
  | ((with_reducible refine' ev_andV ?p1 ?p2); (case p1 => walk_at "ev"); (case p2 => intro _; walk_at "ev"))
  | ((with_reducible refine' ev_orV ?p1 ?p2); (case p1 => walk_at "ev"); (case p2 => intro _; walk_at "ev"))
  | ((with_reducible refine' ev_notV ?p1); (case p1 => walk_at "ev"))
  | ((with_reducible refine' ev_subB ?p1 ?p2); (case p1 => walk_at "ev"); (case p2 => walk_at "ev"))
  | ((with_reducible refine' ev_chI ?p1 ?p2 ?p3); (case p1 => walk_at "ev"); (case p2 => walk_at "ev"); (case p3 => walk_at "ev"))
  | ((with_reducible refine' ev_isInt ?p1 ?p2); (case p1 => walk_at "ev"); (case p2 => walk_at "da"))
  | ((with_reducible refine' ev_isBool ?p1 ?p2); (case p1 => walk_at "ev"); (case p2 => walk_at "da"))
  | ((with_reducible refine' ev_isStr ?p1 ?p2); (case p1 => walk_at "ev"); (case p2 => walk_at "da"))
  | ((with_reducible refine' ev_isTup ?p1 ?p2); (case p1 => walk_at "ev"); (case p2 => walk_at "da"))
  | ((with_reducible refine' ev_isLst ?p1 ?p2); (case p1 => walk_at "ev"); (case p2 => walk_at "da"))
  | ((with_reducible refine' ev_isTL ?p1 ?p2); (case p1 => walk_at "ev"); (case p2 => walk_at "da"))
  | ((with_reducible refine' ev_lenT ?p1 ?p2); (case p1 => walk_at "ev"); (case p2 => walk_at "da"))
  | ((with_reducible refine' ev_lenL ?p1 ?p2); (case p1 => walk_at "ev"); (case p2 => walk_at "da"))
  | ((with_reducible refine' ev_abs ?p1); (case p1 => walk_at "ev"))
  | ((with_reducible refine' ev_min2 ?p1 ?p2); (case p1 => walk_at "ev"); (case p2 => walk_at "ev"))
  | ((with_reducible refine' ev_int1 ?p1); (case p1 => walk_at "ev"))
  | ((with_reducible refine' ev_isN ?p1); (case p1 => walk_at "ev"))
  | ((with_reducible refine' ev_notN ?p1); (case p1 => walk_at "ev"))
  | ((with_reducible refine' ev_sign ?p1); (case p1 => walk_at "ev"))
  | ((with_reducible refine' ev_gcd ?p1 ?p2); (case p1 => walk_at "ev"); (case p2 => walk_at "ev"))
  | ((with_reducible refine' ev_is_in ?p1 ?p2 ?p3 ?p4); (case p1 => walk_at "ev"); (case p2 => walk_at "da"); (case p3 => walk_at "ev"); (case p4 => walk_at "ev"))
  | ((with_reducible refine' ev_doubled ?p1 ?p2 ?p3 ?p4 ?p5 ?p6 ?p7 ?p8 ?p9); (case p1 => walk_at "ev"); (case p2 => walk_at "ev"); (case p3 => walk_at "ev"); (case p4 => walk_at "da"); (case p5 => walk_at "da"); (case p6 => walk_at "da"); (case p7 => assumption); (case p8 => assumption); (case p9 => assumption))
  | ((with_reducible refine' ev_order_of ?p1 ?p2 ?p3 ?p4 ?p5 ?p6); (case p1 => walk_at "ev"); (case p2 => walk_at "ev"); (case p3 => walk_at "da"); (case p4 => walk_at "da"); (case p5 => assumption); (case p6 => assumption))
  | ((with_reducible refine' ev_turn_of ?p1 ?p2 ?p3 ?p4 ?p5 ?p6 ?p7 ?p8 ?p9); (case p1 => walk_at "ev"); (case p2 => walk_at "ev"); (case p3 => walk_at "ev"); (case p4 => walk_at "da"); (case p5 => walk_at "da"); (case p6 => walk_at "da"); (case p7 => assumption); (case p8 => assumption); (case p9 => assumption))
  | ((with_reducible refine' ev_is_between ?p1 ?p2 ?p3 ?p4 ?p5 ?p6 ?p7 ?p8 ?p9); (case p1 => walk_at "ev"); (case p2 => walk_at "ev"); (case p3 => walk_at "ev"); (case p4 => walk_at "da"); (case p5 => walk_at "da"); (case p6 => walk_at "da"); (case p7 => assumption); (case p8 => assumption); (case p9 => assumption)))
section
variable {P : Program} {w : World} {K : PySem.W.Frag} {mg : Str → Option Value} {base : Heap}
/-! hull -/
theorem hullI_lt {L : List Pt} (h : 1 ≤ L.length) : ∀ j ∈ hullI L, j < L.length := fun j hj => by
  unfold hullI at hj
  have key : ∀ i, ∀ j ∈ halfI L i, j < L.length := fun i j hj => by
    unfold halfI at hj
    split at hj
    · exact half_sub (fun k hk => rk_mem hk) j (List.mem_reverse.mp hj)
    · exact half_sub (fun k hk => rk_mem (List.mem_reverse.mp hk)) j (List.mem_reverse.mp hj)
  split at hj
  · rcases List.mem_append.mp hj with h1 | h1
    · exact key 0 j (List.dropLast_subset _ h1)
    · exact key 1 j (List.dropLast_subset _ h1)
  · rcases List.mem_singleton.mp hj with rfl
    exact h
theorem hullI_len (L : List Pt) : (hullI L).length ≤ 2 * L.length + 1 := by
  unfold hullI
  have k1 := half_len L 0
  have k2 := half_len L 1
  split
  · rw [List.length_append, List.length_dropLast, List.length_dropLast]
    omega
  · simp
def hullP (L : List Pt) : List Pt := (hullI L).map (gt L)
section
variable {Z : Wd} {σ : L2.St} {H : Hp} {ta tb tc : TE} {E : XK}
theorem ev_hull_indexes {tbs : List (Addr × Str)} {v : V} {L : List Pt} (tw : TabW Z tbs) (h1 : Ev Z ta σ H (IsV v)) (hp : Da Z H v (.tuple (L.map ptD))) (ho : Pts L) : Ev Z (tCall (spOf (G_hull_indexes tbs)) [] E (tCons ta tNil)) σ H (DaR Z (.list (iD (hullI L)))) :=
  ev_call (ea_cons h1 ea_nil) fun H1 e => ⟨v, L, rfl, tw, hp.mono e, ho, rfl⟩
end
def G_hull (tbs : List (Addr × Str)) : Gv := fun Z vs H R => ∃ v L, vs = [v] ∧ TabW Z tbs ∧ Da Z H v (.tuple (L.map ptD)) ∧ Pts L ∧ R = DaR Z (.tuple ((hullP L).map ptD))
theorem ok_hull (T : Tx K mg) (TB : LamX.TabB base mg T.c_ranked T.P_ranked) : FnOk P w K mg base CX0 6 T.f_hull T.d_hull ["points"] (spOf (G_hull (tabs T))) := by
  refine T.F_hull.ok sc_hull (fun vs H Q E h => ?_) (fun cdv A outer s H vs Q E hr h => ?_)
  · obtain ⟨Z, R, _, ⟨v, d, rfl, _⟩, _⟩ := h
    rfl
  obtain ⟨Z, R, hw, ⟨v, L, rfl, tw, hd, hL, rfl⟩, hq⟩ := h
  refine ⟨_, (pss_cons (ps_expr (pe_call (ok_need_points T) (hr.mono (by decide)) (by rfl) T.g_need_points T.F_need_points.kp T.b_need_points .nil pass0 (pa_cons (pv 0) pa_nil)))
  (pss_one (ps_ret (pe_callTy call_tuple_of (by rfl) T.z_tuple (by decide +kernel) (pa_cons (pe_lc (own := [("at", 1)]) (g := gName 1) rfl sc_hull.nd (pi_list (pe_call (ok_hull_indexes T TB) (hr.mono (by decide)) (by rfl) T.g_hull_indexes T.F_hull_indexes.kp T.b_hull_indexes .nil pass0 (pa_cons (pv 0) pa_nil))) (blkOk_by (own := [("at", 1)]) (N := nm_hull) (sc := defScope s_hull) (by decide +kernel)) (fun _ _ _ _ _ => pg_name (i := 1) sc_hull.nd rfl (Or.inl rfl)) (fun _ _ _ _ _ => pts_nil) (fun _ _ _ _ _ => (pe_ix (ix_tupK (K := K) rfl) (pv 0) (pv 1) (fun _ _ => rfl)))) pa_nil))))), ?_⟩
  rw [show L2.start nm_hull [v] = [some v, none] from rfl]
  have l2 := hL.l2
  have hl := hullI_len L
  obtain ⟨xs, hx, hxs⟩ := hd.tupE
  refine q_drop (Z := Z) (by walk_at "w") (ev_need_points (by walk_at "ev") hd hL) fun v1 H1 e1 r1 => ?_
  refine s_ret (Z := Z) (by walk_at "w") (ev_tupOfD (ds := (hullP L).map ptD) (EvN.da ?_)) fun v3 H3 e3 r3 => hq _ _ (by walk_at "xt") r3
  have hc := en_lcLP (Z := Z) (K := K) (σ := [some v, none]) (H := H1) (vs := [1]) (j := 1) (t := tYes) (xs := iV (hullI L)) (te := tOp (rIxT K) (tVar 0) (tVar 1)) (hullI L) (fun _ => true) (fun j => ptD (gt L j)) (ev_hull_indexes (ta := tVar 0) (E := E0) tw (by walk_at "ev") (hd.mono e1) hL)
    (fun w H2 e2 hw2 => by
      obtain ⟨ys, h1, h2⟩ := Da.lstE hw2
      rw [i_daL h2] at h1
      exact h1) (iV_len _) (by omega) (fun x => rfl) (fun j _ => ptD_noL _) (fun i x a H2 e2 _ _ => et_yes) (fun i x j H2 e2 hi hj _ => ?_)
  · rw [filter_yes] at hc
    unfold hullP
    rw [List.map_map]
    exact hc
  · rw [iV_get hj] at hi
    cases hi
    have hjl := hullI_lt hL.l1 j (List.mem_of_getElem? hj)
    obtain ⟨y, _, hy, hpy⟩ := atPt hxs (gt_get hjl)
    have hx2 := hx.mono (e1.trans e2)
    exact ev_da (by walk_at "ev") (hpy.mono (e1.trans e2)).da
/-! along -/
theorem inSeg_iff {a b p : Pt} (oa : Ok a) (ob : Ok b) (op : Ok p) : (btw a b p = true ∧ p ≠ a ∧ p ≠ b) ↔ inSeg a b p := by
  have e1 := ord_eq oa ob
  have e2 := ord_eq oa op
  have e3 := ord_eq op ob
  have l1 := ord_lt a p
  have g1 := ord_gt a p
  have l2 := ord_lt p b
  have g2 := ord_gt p b
  have sz := sgn_zero (det a b p)
  constructor
  · rintro ⟨h1, h2, h3⟩
    unfold btw at h1
    by_cases h0 : ordP a b = 0
    · rw [if_pos h0] at h1
      exact absurd (e2.mp (by simpa using h1)).symm h2
    · rw [if_neg h0, Bool.and_eq_true, decide_eq_true_iff, decide_eq_true_iff] at h1
      refine ⟨sz.mp h1.1, ?_⟩
      have n1 : ordP a p ≠ 0 := fun z => h2 (e2.mp z).symm
      have n2 : ordP p b ≠ 0 := fun z => h3 (e3.mp z)
      rcases Int.lt_or_gt_of_ne n1 with m1 | m1
      · rcases Int.lt_or_gt_of_ne n2 with m2 | m2
        · exact .inl ⟨l1.mp m1, l2.mp m2⟩
        · have := Int.mul_pos (show 0 < - ordP a p by omega) m2
          rw [Int.neg_mul] at this
          omega
      · rcases Int.lt_or_gt_of_ne n2 with m2 | m2
        · have := Int.mul_pos m1 (show 0 < - ordP p b by omega)
          rw [Int.mul_neg] at this
          omega
        · exact .inr ⟨g2.mp m2, g1.mp m1⟩
  · intro h
    have hn := h.ne
    refine ⟨?_, hn.1, hn.2⟩
    obtain ⟨hd, hh⟩ := h
    unfold btw
    have h0 : ordP a b ≠ 0 := fun z => by
      have := e1.mp z
      subst this
      rcases hh with ⟨h1, h2⟩ | ⟨h1, h2⟩
      · exact plt_asym h1 h2
      · exact plt_asym h1 h2
    rw [if_neg h0, Bool.and_eq_true, decide_eq_true_iff, decide_eq_true_iff]
    refine ⟨sz.mpr hd, ?_⟩
    rcases hh with ⟨h1, h2⟩ | ⟨h1, h2⟩
    · have m1 := l1.mpr h1
      have m2 := l2.mpr h2
      have := Int.mul_pos (show 0 < - ordP a p by omega) (show 0 < - ordP p b by omega)
      rw [Int.neg_mul_neg] at this
      omega
    · have m1 := g1.mpr h2
      have m2 := g2.mpr h1
      have := Int.mul_pos m1 m2
      omega
theorem one_sub (t : Rat) : Rat.divInt ((t.den : Int) - t.num) (t.den : Int) = 1 - t := by
  have hd := den_ne t
  refine rcancel (k := ((t.den : Int) : Rat)) (cast_ne hd) ?_
  have e := rat_num (n := t.num) hd
  rw [div_num] at e
  rw [Rat.mul_comm, rat_num hd, Rat.intCast_sub, ← e]
  grind
/-- two weights -/
structure Two (a b p : Pt) (t : Rat) : Prop where
  p1 : 0 < t
  p2 : 0 < 1 - t
  x : t * rx a + (1 - t) * rx b = rx p
  y : t * ry a + (1 - t) * ry b = ry p
  s1 : RB 300 t
  s2 : RB 400 (1 - t)
def G_along : Gv := fun Z vs H R => ∃ va vb vp a b p, vs = [va, vb, vp] ∧ P3 Z va a H ∧ P3 Z vb b H ∧ P3 Z vp p H ∧ Ok a ∧ Ok b ∧ Ok p ∧ R = fun x H2 => (¬ inSeg a b p ∧ x = .non) ∨ (inSeg a b p ∧ ∃ t, Two a b p t ∧ Da Z H2 x (.tuple [raD t, raD (1 - t)]))
theorem ok_along (T : Tx K mg) : FnOk P w K mg base CX0 4 T.f_along T.d_along ["a", "b", "p"] (spOf G_along) := by
  refine T.F_along.ok sc_along (fun vs H Q E h => ?_) (fun cdv A outer s H vs Q E hr h => ?_)
  · obtain ⟨Z, R, _, ⟨va, vb, vp, a, b, p, rfl, _⟩, _⟩ := h
    rfl
  obtain ⟨Z, R, hw, ⟨va, vb, vp, a, b, p, rfl, pa, pb, pp, oa, ob, op, rfl⟩, hq⟩ := h
  refine ⟨_, (pss_cons (ps_if (PW.pt (pw_or (pt_not (pt_val (pe_call (ok_is_between T) (hr.mono (by decide)) (by rfl) T.g_is_between T.F_is_between.kp T.b_is_between .nil pass0 (pa_cons (pv 0) (pa_cons (pv 1) (pa_cons (pv 2) pa_nil)))))) (pw_or1 (pt_cmpR (op_inTD (un65 hr)) (pv 2) (pe_tup (pa_cons (pv 0) (pa_cons (pv 1) pa_nil))) (by rfl)))))
  (pss_one (ps_ret pe_non))
  pss_nil)
  (pss_cons (ps_set (i := 3) sc_along.nd rfl (Or.inl rfl) (pe_ifExp (pt_cmpR op_ne (pe_op op_mulW (pe_ix ix_tup (pv 0) pe_int (fun _ _ => rfl)) (pe_ix ix_tup (pv 1) pe_int (fun _ _ => rfl))) (pe_op op_mulW (pe_ix ix_tup (pv 1) pe_int (fun _ _ => rfl)) (pe_ix ix_tup (pv 0) pe_int (fun _ _ => rfl))) (nomark _)) pe_int pe_int))
  (pss_cons (ps_set (i := 4) sc_along.nd rfl (Or.inl rfl) (pe_op op_mulW (pe_op op_sub (pe_op op_mulW (pe_ix ix_tup (pv 1) (pv 3) (fun _ _ => rfl)) (pe_ix ix_tup (pv 0) pe_int (fun _ _ => rfl))) (pe_op op_mulW (pe_ix ix_tup (pv 0) (pv 3) (fun _ _ => rfl)) (pe_ix ix_tup (pv 1) pe_int (fun _ _ => rfl)))) (pe_ix ix_tup (pv 2) pe_int (fun _ _ => rfl))))
  (pss_cons (ps_set (i := 5) sc_along.nd rfl (Or.inl rfl) (pe_op op_mulW (pe_op op_sub (pe_op op_mulW (pe_ix ix_tup (pv 1) (pv 3) (fun _ _ => rfl)) (pe_ix ix_tup (pv 2) pe_int (fun _ _ => rfl))) (pe_op op_mulW (pe_ix ix_tup (pv 2) (pv 3) (fun _ _ => rfl)) (pe_ix ix_tup (pv 1) pe_int (fun _ _ => rfl)))) (pe_ix ix_tup (pv 0) pe_int (fun _ _ => rfl))))
  (pss_cons (ps_set (i := 6) sc_along.nd rfl (Or.inl rfl) (pe_call (ok_reduced T) (hr.mono (by decide)) (by rfl) T.g_reduced T.F_reduced.kp T.b_reduced .nil pass0 (pa_cons (pv 5) (pa_cons (pv 4) pa_nil))))
  (pss_one (ps_ret (pe_tup (pa_cons (pv 6) (pa_cons (pe_call (ok_reduced T) (hr.mono (by decide)) (by rfl) T.g_reduced T.F_reduced.kp T.b_reduced .nil pass0 (pa_cons (pe_op op_sub (pe_ix ix_tup (pv 6) pe_int (fun _ _ => rfl)) (pe_ix ix_tup (pv 6) pe_int (fun _ _ => rfl))) (pa_cons (pe_ix ix_tup (pv 6) pe_int (fun _ _ => rfl)) pa_nil))) pa_nil)))))))))), ?_⟩
  rw [show L2.start nm_along [va, vb, vp] = [some va, some vb, some vp, none, none, none, none] from rfl]
  have na := oa.nm
  have nb := ob.nm
  have np := op.nm
  obtain ⟨a1, a2, a3, a4⟩ := id na
  obtain ⟨b1, b2, b3, b4⟩ := id nb
  obtain ⟨p1, p2, p3, p4⟩ := id np
  have hin : ∀ H1, Xt Z H H1 → Ev Z (tOp (rInTD K) (tVar 2) (tTup (tCons (tVar 0) (tCons (tVar 1) tNil)))) [some va, some vb, some vp, none, none, none, none] H1 (IsV (.bl (decide (p ∈ [a, b])))) := fun H1 e1 => by
    refine ev_is (ev_inTD (ds := [a, b].map ptD) (ev_da (by walk_at "ev") (pp.mono e1).da) (ev_tupD (ea_consD (ev_da (by walk_at "ev") (pa.mono e1).da) (ea_consD (ev_da (by walk_at "ev") (pb.mono e1).da) ea_nilD)) (by simp)) (ptD_nod p) (pts_nod _) (ptD_sh p) ((sm_pts _).sh (by decide))) (by rw [any_ptD])
  refine q_when (Z := Z) (b := !btw a b p || decide (p ∈ [a, b])) (by walk_at "w") (et_or (et_not (et_B (by walk_at "ev"))) fun _ => et_test (hin _ (.refl hw))) (fun hb H1 e1 => ?_) (fun hb H1 e1 => ?_)
  · refine s_ret (Z := Z) (by walk_at "w") (by walk_at "ev") fun v1 H2 e2 r1 => hq _ _ (by walk_at "xt") (.inl ⟨fun h => ?_, r1⟩)
    obtain ⟨k1, k2, k3⟩ := (inSeg_iff oa ob op).mpr h
    rw [k1] at hb
    simp [k2, k3] at hb
  · have hb1 : btw a b p = true := by
      cases h : btw a b p with
      | true => rfl
      | false => rw [h] at hb; simp at hb
    have hb2 : p ∉ [a, b] := fun h => by
      rw [decide_eq_true h] at hb
      simp at hb
    simp only [List.mem_cons, List.not_mem_nil, or_false, not_or] at hb2
    have hs : inSeg a b p := (inSeg_iff oa ob op).mp ⟨hb1, hb2.1, hb2.2⟩
    obtain ⟨sx, sy⟩ := seg2 a4 b4 p4 hs
    have pa := pa.mono e1
    have pb := pb.mono e1
    have pp := pp.mono e1
    -- the end, once whole and first are known
    have fin : ∀ (n d : Int) (y3 : Option V) (H2 : Hp), Xt Z H1 H2 → d ≠ 0 → B 300 n → B 300 d → (∀ t, t = Rat.divInt n d → 0 < t ∧ 0 < 1 - t ∧ t * rx a + (1 - t) * rx b = rx p ∧ t * ry a + (1 - t) * ry b = ry p) →
        tSeq (tAsg (tCall (spOf G_reduced) [] E0 (tCons (tVar 5) (tCons (tVar 4) tNil))) (gName 6)) (tRet (tTup (tCons (tVar 6) (tCons (tCall (spOf G_reduced) [] E0 (tCons (tOp (rI0 fun i j => .int (i - j)) (tOp (rIxT K) (tVar 6) (tC (.int 1))) (tOp (rIxT K) (tVar 6) (tC (.int 0)))) (tCons (tOp (rIxT K) (tVar 6) (tC (.int 1))) tNil))) tNil))))
          { nx := fun _ H' => Q .non H', rt := Q } [some va, some vb, some vp, y3, some (.int d), some (.int n), none] H2 := fun n d y3 H2 e2 hd bn bd ht => by
      refine q_asg (Z := Z) (by walk_at "w") (ev_reduced (by walk_at "ev") (by walk_at "ev") hd (bd.mono (by decide))) fun v1 H3 e3 r1 => ?_
      obtain ⟨k1, k2, k3, k4⟩ := ht _ rfl
      generalize ht0 : Rat.divInt n d = t at *
      have tb : RB 300 t := by rw [← ht0]; exact RB.mk2 hd bn bd
      obtain ⟨tb1, tb2⟩ := id tb
      have r1' : TuR Z [.int t.num, .int (t.den : Int)] v1 H3 := r1
      have tb3 : RB 400 (1 - t) := by
        rw [← one_sub]
        exact RB.mk2 (den_ne t) ((tb2.sub tb1).mono (by decide)) (tb2.mono (by decide))
      refine s_ret (Z := Z) (by walk_at "w") (ev_tupD (ds := [raD t, raD (1 - t)]) (ea_consD (ev_da (by walk_at "ev") (Ra.da r1)) (ea_consD ?_ ea_nilD)) (by simp)) fun v2 H4 e4 r2 => hq _ _ (by walk_at "xt") (.inr ⟨hs, t, ⟨k1, k2, k3, k4, tb, tb3⟩, r2⟩)
      refine Ev.imp (ev_reduced (n := (t.den : Int) - t.num) (d := (t.den : Int)) (by walk_at "ev") (by walk_at "ev") (den_ne t) (tb2.mono (by decide))) fun w H4 e4 h4 => ?_
      rw [one_sub] at h4
      exact h4.da
    by_cases h0 : lx a b ≠ 0
    · obtain ⟨s1, s2⟩ := sx h0
      refine q_asg (Z := Z) (R := IsV (.int 0)) (by walk_at "w") (ev_if (b := true) (et_is (by walk_at "et") ?_) (fun _ => by walk_at "ev") (fun h => by cases h)) fun v1 H2 e2 r1 => ?_
      · have : a.x * b.w ≠ b.x * a.w := fun z => h0 (by unfold lx; omega)
        simp [this]
      subst r1
      refine q_asg (Z := Z) (by walk_at "w") (by walk_at "ev") fun v1 H3 e3 r1 => ?_
      subst r1
      refine q_asg (Z := Z) (by walk_at "w") (by walk_at "ev") fun v1 H4 e4 r1 => ?_
      subst r1
      refine fin (lx p b * a.w) (lx a b * p.w) _ H4 (by walk_at "xt") (fun z => h0 (mul0 z (by omega))) ?_ ?_ fun t ht => two_x a4 b4 p4 hs.1 h0 s1 s2 ht
      · exact (((b1.mul p3).sub (p1.mul b3)).mul a3).mono (by decide)
      · exact (((b1.mul a3).sub (a1.mul b3)).mul p3).mono (by decide)
    · have h0 : lx a b = 0 := by omega
      obtain ⟨s1, s2, s3, s4, s5⟩ := sy h0
      refine q_asg (Z := Z) (R := IsV (.int 1)) (by walk_at "w") (ev_if (b := false) (et_is (by walk_at "et") ?_) (fun h => by cases h) (fun _ => by walk_at "ev")) fun v1 H2 e2 r1 => ?_
      · have : a.x * b.w = b.x * a.w := by unfold lx at h0; omega
        simp [this]
      subst r1
      refine q_asg (Z := Z) (by walk_at "w") (by walk_at "ev") fun v1 H3 e3 r1 => ?_
      subst r1
      refine q_asg (Z := Z) (by walk_at "w") (by walk_at "ev") fun v1 H4 e4 r1 => ?_
      subst r1
      refine fin (ly p b * a.w) (ly a b * p.w) _ H4 (by walk_at "xt") (fun z => s3 (mul0 z (by omega))) ?_ ?_ fun t ht => two_y a4 b4 p4 s1 s2 s3 s4 s5 ht
      · exact (((b2.mul p3).sub (p2.mul b3)).mul a3).mono (by decide)
      · exact (((b2.mul a3).sub (a2.mul b3)).mul p3).mono (by decide)
section
variable {Z : Wd} {σ : L2.St} {H : Hp} {ta tb tc : TE} {E : XK}
theorem ev_along {va vb vc : V} {a b p : Pt} (h1 : Ev Z ta σ H (IsV va)) (h2 : Ev Z tb σ H (IsV vb)) (h3 : Ev Z tc σ H (IsV vc)) (pa : P3 Z va a H) (pb : P3 Z vb b H) (pc : P3 Z vc p H) (na : Ok a) (nb : Ok b) (nc : Ok p) :
    Ev Z (tCall (spOf G_along) [] E (tCons ta (tCons tb (tCons tc tNil)))) σ H (fun x H2 => (¬ inSeg a b p ∧ x = .non) ∨ (inSeg a b p ∧ ∃ t, Two a b p t ∧ Da Z H2 x (.tuple [raD t, raD (1 - t)]))) :=
  ev_call (ea_cons h1 (ea_cons h2 (ea_cons h3 ea_nil))) fun H1 e => ⟨va, vb, vc, a, b, p, rfl, pa.mono e, pb.mono e, pc.mono e, na, nb, nc, rfl⟩
end
end
end Hk
/-! ## F10 -/
namespace Hk
open PySem PySem.Spec PyProof.Rows L2
local macro_rules | `(tactic| walk_at "bd") => `(tactic| first
  | assumption
  | exact (show B 64 _ from by unfold B; decide)
  | (refine' B.mul ?b1 ?b2; (case b1 => walk_at "bd"); (case b2 => walk_at "bd"))
  | (refine' B.sub ?b1 ?b2; (case b1 => walk_at "bd"); (case b2 => walk_at "bd"))
  | (refine' B.add ?b1 ?b2; (case b1 => walk_at "bd"); (case b2 => walk_at "bd"))
  | (refine' B.neg ?b1; (case b1 => walk_at "bd")))
local macro_rules | `(tactic| walk_at "da") => `(tactic| first
  | assumption
  | exact Da.int _
  | exact Da.non
  | exact Da.bl _
  | exact Da.str _
  | ((with_reducible refine' P3.mono (by assumption) ?d1); (case d1 => walk_at "da"))
  | ((with_reducible refine' Ra.mono (by assumption) ?d1); (case d1 => walk_at "da"))
  | ((with_reducible refine' TuR.mono (by assumption) ?d1); (case d1 => walk_at "da"))
  | ((with_reducible refine' LiR.mono (by assumption) ?d1); (case d1 => walk_at "da"))
  | ((with_reducible refine' Da.mono (by assumption) ?d1); (case d1 => walk_at "da")))
local macro_rules | `(tactic| walk_at "xt") => `(tactic| first
  | assumption
  | (refine' Xt.trans ?x1 (by assumption); (case x1 => walk_at "xt")))
local macro_rules | `(tactic| walk_at "w") => `(tactic| first
  | assumption
  | exact Xt.w2 (by assumption)
  | exact Xt.w1 (by assumption))
local macro_rules | `(tactic| walk_at "side") => `(tactic| first
  | assumption
  | (refine' B.cmul ?b1 ?b2 ?b3; (case b1 => walk_at "bd"); (case b2 => walk_at "bd"); (case b3 => first | decide | omega))
  | (refine' B.cdiv ?b1 ?b2 ?b3; (case b1 => assumption); (case b2 => walk_at "bd"); (case b3 => first | decide | omega)))
local macro_rules | `(tactic| walk_at "ea") => `(tactic| first
  | with_reducible exact ea_nil
  | ((with_reducible refine' ea_cons ?p1 ?p2); (case p1 => walk_at "ev"); (case p2 => walk_at "ea")))
local macro_rules | `(tactic| walk_at "et") => `(tactic| first
  | ((with_reducible refine' et_and ?p1 ?p2); (case p1 => walk_at "et"); (case p2 => intro _; walk_at "et"))
  | ((with_reducible refine' et_or ?p1 ?p2); (case p1 => walk_at "et"); (case p2 => intro _; walk_at "et"))
  | ((with_reducible refine' et_not ?p1); (case p1 => walk_at "et"))
  | ((with_reducible refine' et_test ?p1); (case p1 => walk_at "ev"))
  | ((with_reducible refine' et_B ?p1); (case p1 => walk_at "ev")))
local macro_rules | `(tactic| walk_at "ev") => `(tactic| first
  | with_reducible exact ev_c
  | ((with_reducible refine' ev_var ?v1); (case v1 => exact rfl))
  | ((with_reducible refine' ev_px ?p1 ?p2 ?p3); (case p1 => walk_at "ev"); (case p2 => walk_at "da"); (case p3 => with_reducible exact ev_c))
  | ((with_reducible refine' ev_py ?p1 ?p2 ?p3); (case p1 => walk_at "ev"); (case p2 => walk_at "da"); (case p3 => with_reducible exact ev_c))
  | ((with_reducible refine' ev_pw ?p1 ?p2 ?p3); (case p1 => walk_at "ev"); (case p2 => walk_at "da"); (case p3 => with_reducible exact ev_c))
  | ((with_reducible refine' ev_ixT ?p1 ?p2 ?p3 ?p4); (case p1 => walk_at "ev"); (case p2 => walk_at "da"); (case p3 => walk_at "ev"); (case p4 => first | exact rfl | assumption))
  | ((with_reducible refine' ev_ixL ?p1 ?p2 ?p3 ?p4); (case p1 => walk_at "ev"); (case p2 => walk_at "da"); (case p3 => walk_at "ev"); (case p4 => first | exact rfl | assumption))
  | ((with_reducible refine' ev_i0 ?p1 ?p2); (case p1 => walk_at "ev"); (case p2 => walk_at "ev"))
  | ((with_reducible refine' ev_iC ?p1 ?p2 ?p3); (case p1 => walk_at "ev"); (case p2 => walk_at "ev"); (case p3 => walk_at "side"))
  | ((with_reducible refine' ev_neg ?p1); (case p1 => walk_at "ev"))
  | ((with_reducible refine' ev_eq ?p1 ?p2 ?p3); (case p1 => walk_at "ev"); (case p2 => walk_at "ev"); (case p3 => exact rfl))
  | ((with_reducible refine' ev_ne ?p1 ?p2 ?p3); (case p1 => walk_at "ev"); (case p2 => walk_at "ev"); (case p3 => exact rfl))
  | ((with_reducible refine' ev_andV ?p1 ?p2); (case p1 => walk_at "ev"); (case p2 => intro _; walk_at "ev"))
  | ((with_reducible refine' ev_orV ?p1 ?p2); (case p1 => walk_at "ev"); (case p2 => intro _; walk_at "ev"))
  | ((with_reducible refine' ev_notV ?p1); (case p1 => walk_at "ev"))
  | ((with_reducible refine' ev_subB ?p1 ?p2); (case p1 => walk_at "ev"); (case p2 => walk_at "ev"))
  | ((with_reducible refine' ev_chI ?p1 ?p2 ?p3); (case p1 => walk_at "ev"); (case p2 => walk_at "ev"); (case p3 => walk_at "ev"))
  | ((with_reducible refine' ev_isInt ?p1 ?p2); (case p1 => walk_at "ev"); (case p2 => walk_at "da"))
  | ((with_reducible refine' ev_isBool ?p1 ?p2); (case p1 => walk_at "ev"); (case p2 => walk_at "da"))
  | ((with_reducible refine' ev_isStr ?p1 ?p2); (case p1 => walk_at "ev"); (case p2 => walk_at "da"))
  | ((with_reducible refine' ev_isTup ?p1 ?p2); (case p1 => walk_at "ev"); (case p2 => walk_at "da"))
  | ((with_reducible refine' ev_isLst ?p1 ?p2); (case p1 => walk_at "ev"); (case p2 => walk_at "da"))
  | ((with_reducible refine' ev_isTL ?p1 ?p2); (case p1 => walk_at "ev"); (case p2 => walk_at "da"))
  | ((with_reducible refine' ev_lenT ?p1 ?p2); (case p1 => walk_at "ev"); (case p2 => walk_at "da"))
  | ((with_reducible refine' ev_lenL ?p1 ?p2); (case p1 => walk_at "ev"); (case p2 => walk_at "da"))
  | ((with_reducible refine' ev_abs ?p1); (case p1 => walk_at "ev"))
  | ((with_reducible refine' ev_min2 ?p1 ?p2); (case p1 => walk_at "ev"); (case p2 => walk_at "ev"))
  | ((with_reducible refine' ev_int1 ?p1); (case p1 => walk_at "ev"))
  | ((with_reducible refine' ev_isN ?p1); (case p1 => walk_at "ev"))
  | ((with_reducible refine' ev_notN ?p1); (case p1 => walk_at "ev"))
  | ((with_reducible refine' ev_sign ?p1); (case p1 => walk_at "ev"))
  | ((with_reducible refine' ev_gcd ?p1 ?p2); (case p1 => walk_at "ev"); (case p2 => walk_at "ev"))
  | ((with_reducible refine' ev_is_in ?p1 ?p2 ?p3 ?p4); (case p1 => walk_at "ev"); (case p2 => walk_at "da"); (case p3 => walk_at "ev"); (case p4 => walk_at "ev"))
  | ((with_reducible refine' ev_doubled ?p1 ?p2 ?p3 ?p4 ?p5 ?p6 ?p7 ?p8 ?p9); (case p1 => walk_at "ev"); (case p2 => walk_at "ev"); (case p3 => walk_at "ev"); (case p4 => walk_at "da"); (case p5 => walk_at "da"); (case p6 => walk_at "da"); (case p7 => assumption); (case p8 => assumption); (case p9 => assumption))
  | ((with_reducible refine' ev_order_of ?p1 ?p2 ?p3 ?p4 ?p5 ?p6); (case p1 => walk_at "ev"); (case p2 => walk_at "ev"); (case p3 => walk_at "da"); (case p4 => walk_at "da"); (case p5 => assumption); (case p6 => assumption))
  | ((with_reducible refine' ev_turn_of ?p1 ?p2 ?p3 ?p4 ?p5 ?p6 ?p7 ?p8 ?p9); (case p1 => walk_at "ev"); (case p2 => walk_at "ev"); (case p3 => walk_at "ev"); (case p4 => walk_at "da"); (case p5 => walk_at "da"); (case p6 => walk_at "da"); (case p7 => assumption); (case p8 => assumption); (case p9 => assumption))
  | ((with_reducible refine' ev_is_between ?p1 ?p2 ?p3 ?p4 ?p5 ?p6 ?p7 ?p8 ?p9); (case p1 => walk_at "ev"); (case p2 => walk_at "ev"); (case p3 => walk_at "ev"); (case p4 => walk_at "da"); (case p5 => walk_at "da"); (case p6 => walk_at "da"); (case p7 => assumption); (case p8 => assumption); (case p9 => assumption)))
section
variable {P : Program} {w : World} {K : PySem.W.Frag} {mg : Str → Option Value} {base : Heap}
theorem num_pos_iff (q : Rat) : 0 < q ↔ 0 < q.num := by
  have e := rat_num (n := q.num) (den_ne q)
  rw [div_num] at e
  have hd : (0 : Rat) < ((q.den : Int) : Rat) := cast_pos (den_pos q)
  constructor
  · intro h
    have := Rat.mul_pos h hd
    rw [e] at this
    exact Rat.intCast_lt_intCast.mp this
  · intro h
    exact rpos_of e hd (cast_pos h)
theorem ratio_pos_iff {w pw D d : Int} (wa : 0 < w) (wp : 0 < pw) (h0 : D ≠ 0) : 0 < Rat.divInt (d * w) (D * pw) ↔ 0 < d * D := by
  have e2 : d * w * (D * pw) = d * D * (w * pw) := by grind
  have hD : D * pw ≠ 0 := fun z => h0 (mul0 z (by omega))
  refine ⟨fun h => ?_, fun h => rat_pos ?_⟩
  · have e := rat_num (n := d * w) hD
    have h2 : (0 : Rat) < ((D * pw * (D * pw) : Int) : Rat) := cast_pos (by
      rcases Int.lt_or_gt_of_ne hD with g | g
      · have := Int.mul_pos (show 0 < -(D * pw) by omega) (show 0 < -(D * pw) by omega)
        rw [Int.neg_mul_neg] at this
        exact this
      · exact Int.mul_pos g g)
    have h3 := Rat.mul_pos h h2
    rw [Rat.intCast_mul, ← Rat.mul_assoc, e, ← Rat.intCast_mul] at h3
    have h4 : 0 < d * w * (D * pw) := Rat.intCast_lt_intCast.mp h3
    rw [e2] at h4
    exact pos2 h4 (Int.mul_pos wa wp)
  · rw [e2]
    exact Int.mul_pos h (Int.mul_pos wa wp)
def In (L : List Pt) (p : Pt) : List Nat → Prop
  | [i] => gt L i = p
  | [i, j] => inSeg (gt L i) (gt L j) p
  | [i, j, k] => inTri (gt L i) (gt L j) (gt L k) p
  | _ => False
def WtR (Z : Wd) (L : List Pt) (js : List Nat) (p : Pt) : Rl := fun x H2 => (¬ In L p js ∧ x = .non) ∨ (In L p js ∧ ∃ ws, Wt L js p ws ∧ (∀ w ∈ ws, RB 400 w) ∧ Da Z H2 x (.tuple (ws.map raD)))
def G_weights_in : Gv := fun Z vs H R => ∃ v vc vp L js p, vs = [v, vc, vp] ∧ Da Z H v (.tuple (L.map ptD)) ∧ TuR Z (iV js) vc H ∧ P3 Z vp p H ∧ (∀ q ∈ L, Ok q) ∧ Ok p ∧ (∀ j ∈ js, j < L.length) ∧ 1 ≤ js.length ∧ js.length ≤ 3 ∧ R = WtR Z L js p
theorem det_B {a b c : Pt} (na : Nm a) (nb : Nm b) (nc : Nm c) : B 200 (det a b c) := by
  obtain ⟨a1, a2, a3, _⟩ := na
  obtain ⟨b1, b2, b3, _⟩ := nb
  obtain ⟨c1, c2, c3, _⟩ := nc
  exact (((a1.mul ((b2.mul c3).sub (c2.mul b3))).sub (a2.mul ((b1.mul c3).sub (c1.mul b3)))).add (a3.mul ((b1.mul c2).sub (c1.mul b2)))).mono (by decide)
section
variable {Z : Wd} {σ : L2.St} {H : Hp} {te : TE}
theorem et_minpos {ns : List Int} (h : Ev Z te σ H (DaR Z (.list (ns.map .int)))) (hn : 0 < ns.length) : EvT Z (tTest (tOp (rI0 fun i j => .bl (decide (j < i))) (tCB (rMin K) (tCons te tNil)) (tC (.int 0)))) σ H (decide (∀ y ∈ ns, 0 < y)) :=
  et_test (ev_opX (Ra := fun v _ => ∃ m, v = .int m ∧ m ∈ ns ∧ ∀ y ∈ ns, m ≤ y) (Rb := fun _ => IsV (.int 0)) (ev_min h hn fun m H1 h1 h2 => ⟨m, rfl, h1, h2⟩) (fun _ _ _ _ => ev_c) fun x y H1 H2 e1 e2 ⟨m, hx, hm, hle⟩ hy Q q => by
    subst hx
    subst hy
    refine ⟨m, 0, rfl, rfl, q _ H2 (.refl e2.w2) ?_⟩
    show V.bl (decide (0 < m)) = _
    congr 1
    refine decide_eq_decide.mpr ⟨fun h y hy => by have := hle y hy; omega, fun h => h m hm⟩)
end
theorem Wt.one {L : List Pt} {i : Nat} {p : Pt} (h : gt L i = p) : Wt L [i] p [1] := by
  refine ⟨rfl, fun w hw => ?_, ?_, ?_, ?_⟩
  · rcases List.mem_singleton.mp hw with rfl
    decide
  · simp only [tsum, List.foldl_cons, List.foldl_nil]
    grind
  · simp only [dsum, List.zip_cons_cons, List.zip_nil_left, List.foldl_cons, List.foldl_nil, h]
    grind
  · simp only [dsum, List.zip_cons_cons, List.zip_nil_left, List.foldl_cons, List.foldl_nil, h]
    grind
theorem Wt.two {L : List Pt} {i j : Nat} {p : Pt} {t : Rat} (h : Two (gt L i) (gt L j) p t) : Wt L [i, j] p [t, 1 - t] := by
  obtain ⟨h1, h2, h3, h4, _, _⟩ := h
  refine ⟨rfl, fun w hw => ?_, ?_, ?_, ?_⟩
  · simp only [List.mem_cons, List.not_mem_nil, or_false] at hw
    rcases hw with rfl | rfl
    · exact h1
    · exact h2
  · simp only [tsum, List.foldl_cons, List.foldl_nil]
    grind
  · simp only [dsum, List.zip_cons_cons, List.zip_nil_left, List.foldl_cons, List.foldl_nil]
    grind
  · simp only [dsum, List.zip_cons_cons, List.zip_nil_left, List.foldl_cons, List.foldl_nil]
    grind
def triW (a b c p : Pt) : List Rat := [Rat.divInt (det p b c * a.w) (det a b c * p.w), Rat.divInt (det a p c * b.w) (det a b c * p.w), Rat.divInt (det a b p * c.w) (det a b c * p.w)]
theorem Wt.three {L : List Pt} {i j k : Nat} {p : Pt} (wa : 0 < (gt L i).w) (wb : 0 < (gt L j).w) (wc : 0 < (gt L k).w) (wp : 0 < p.w) (h0 : det (gt L i) (gt L j) (gt L k) ≠ 0) (hp : ∀ w ∈ triW (gt L i) (gt L j) (gt L k) p, 0 < w) : Wt L [i, j, k] p (triW (gt L i) (gt L j) (gt L k) p) := by
  obtain ⟨k1, k2, k3⟩ := Hk.three wa wb wc wp h0 rfl rfl rfl
  refine ⟨rfl, hp, ?_, ?_, ?_⟩
  · simp only [tsum, triW, List.foldl_cons, List.foldl_nil]
    grind
  · simp only [dsum, triW, List.zip_cons_cons, List.zip_nil_left, List.foldl_cons, List.foldl_nil]
    grind
  · simp only [dsum, triW, List.zip_cons_cons, List.zip_nil_left, List.foldl_cons, List.foldl_nil]
    grind
theorem inTri_iff {a b c p : Pt} (wa : 0 < a.w) (wb : 0 < b.w) (wc : 0 < c.w) (wp : 0 < p.w) (h0 : det a b c ≠ 0) : inTri a b c p ↔ ∀ w ∈ triW a b c p, 0 < w := by
  have e1 := ratio_pos_iff (d := det p b c) wa wp h0
  have e2 := ratio_pos_iff (d := det a p c) wb wp h0
  have e3 := ratio_pos_iff (d := det a b p) wc wp h0
  unfold inTri triW
  simp only [List.mem_cons, List.not_mem_nil, or_false]
  constructor
  · rintro ⟨h1, h2, h3⟩ w (rfl | rfl | rfl)
    · exact e1.mpr h1
    · exact e2.mpr h2
    · exact e3.mpr h3
  · intro h
    exact ⟨e1.mp (h _ (.inl rfl)), e2.mp (h _ (.inr (.inl rfl))), e3.mp (h _ (.inr (.inr rfl)))⟩
theorem da3 {Z : Wd} {H : Hp} {zs : List V} {d1 d2 d3 : PyData} (h : DaL Z H zs [d1, d2, d3]) : ∃ a b c, zs = [a, b, c] ∧ Da Z H a d1 ∧ Da Z H b d2 ∧ Da Z H c d3 := by
  cases h with
  | cons a h =>
    cases h with
    | cons b h =>
      cases h with
      | cons c h =>
        cases h
        exact ⟨_, _, _, rfl, a, b, c⟩
theorem da2 {Z : Wd} {H : Hp} {zs : List V} {d1 d2 : PyData} (h : DaL Z H zs [d1, d2]) : ∃ a b, zs = [a, b] ∧ Da Z H a d1 ∧ Da Z H b d2 := by
  cases h with
  | cons a h =>
    cases h with
    | cons b h =>
      cases h
      exact ⟨_, _, rfl, a, b⟩
theorem raD_noL (q : Rat) : noL (raD q) = true := by simp [raD, noL, noLL]
theorem ras_noL (ws : List Rat) : noLL (ws.map raD) = true := noLL_all fun d hd => by
  obtain ⟨q, _, rfl⟩ := List.mem_map.mp hd
  exact raD_noL q
theorem RB_one : RB 400 1 := RB.mono (m := 1) ⟨by unfold B; decide, by unfold B; decide⟩ (by decide)
theorem ok_weights_in (T : Tx K mg) : FnOk P w K mg base CX0 5 T.f_weights_in T.d_weights_in ["points", "chosen", "p"] (spOf G_weights_in) := by
  refine T.F_weights_in.ok sc_weights_in (fun vs H Q E h => ?_) (fun cdv A outer s H vs Q E hr h => ?_)
  · obtain ⟨Z, R, _, ⟨v, vc, vp, L, js, p, rfl, _⟩, _⟩ := h
    rfl
  obtain ⟨Z, R, hw, ⟨v, vc, vp, L, js, p, rfl, hd, hc, pp, hok, op, hjs, hj1, hj3, rfl⟩, hq⟩ := h
  refine ⟨_, (pss_cons (ps_if (pt_cmpR op_eq (pe_callB call_len_seq (by rfl) T.z_len (by decide +kernel) (pa_cons (pv 1) pa_nil)) pe_int (nomark _))
  (pss_one (ps_ret (pe_ifExp (pt_cmpR (op_eqD hr.units) (pe_ix ix_tup (pv 0) (pe_ix ix_tup (pv 1) pe_int (fun _ _ => rfl)) (fun _ _ => rfl)) (pv 2) (nomark _)) (pe_tup (pa_cons (pe_tup (pa_cons pe_int (pa_cons pe_int pa_nil))) pa_nil)) pe_non)))
  pss_nil)
  (pss_cons (ps_if (pt_cmpR op_eq (pe_callB call_len_seq (by rfl) T.z_len (by decide +kernel) (pa_cons (pv 1) pa_nil)) pe_int (nomark _))
  (pss_one (ps_ret (pe_call (ok_along T) (hr.mono (by decide)) (by rfl) T.g_along T.F_along.kp T.b_along .nil pass0 (pa_cons (pe_ix ix_tup (pv 0) (pe_ix ix_tup (pv 1) pe_int (fun _ _ => rfl)) (fun _ _ => rfl)) (pa_cons (pe_ix ix_tup (pv 0) (pe_ix ix_tup (pv 1) pe_int (fun _ _ => rfl)) (fun _ _ => rfl)) (pa_cons (pv 2) pa_nil))))))
  pss_nil)
  (pss_cons (ps_asg (pe_lc (own := [("at", 10)]) (g := gName 10) rfl sc_weights_in.nd (pi_tup (pv 1)) (blkOk_by (own := [("at", 10)]) (N := nm_weights_in) (sc := defScope s_weights_in) (by decide +kernel)) (fun _ _ _ _ _ => pg_name (i := 10) sc_weights_in.nd rfl (Or.inl rfl)) (fun _ _ _ _ _ => pts_nil) (fun _ _ _ _ _ => (pe_ix (ix_tupK (K := K) rfl) (pv 0) (pv 10) (fun _ _ => rfl)))) (pg_unl rfl (pgs_cons (pg_name (i := 3) sc_weights_in.nd rfl (Or.inl rfl)) (pgs_cons (pg_name (i := 4) sc_weights_in.nd rfl (Or.inl rfl)) (pgs_cons (pg_name (i := 5) sc_weights_in.nd rfl (Or.inl rfl)) pgs_nil)))))
  (pss_cons (ps_set (i := 6) sc_weights_in.nd rfl (Or.inl rfl) (pe_call (ok_doubled T) (hr.mono (by decide)) (by rfl) T.g_doubled T.F_doubled.kp T.b_doubled .nil pass0 (pa_cons (pv 3) (pa_cons (pv 4) (pa_cons (pv 5) pa_nil)))))
  (pss_cons (ps_if (pt_cmpR op_eq (pv 6) pe_int (nomark _))
  (pss_one (ps_ret pe_non))
  pss_nil)
  (pss_cons (ps_set (i := 7) sc_weights_in.nd rfl (Or.inl rfl) (pe_lst pa_nil))
  (pss_cons (ps_for PassesOwn.never rfl (pi_list (pe_lst (pa_cons (pe_tup (pa_cons (pe_call (ok_doubled T) (hr.mono (by decide)) (by rfl) T.g_doubled T.F_doubled.kp T.b_doubled .nil pass0 (pa_cons (pv 2) (pa_cons (pv 4) (pa_cons (pv 5) pa_nil)))) (pa_cons (pe_ix ix_tup (pv 3) pe_int (fun _ _ => rfl)) pa_nil))) (pa_cons (pe_tup (pa_cons (pe_call (ok_doubled T) (hr.mono (by decide)) (by rfl) T.g_doubled T.F_doubled.kp T.b_doubled .nil pass0 (pa_cons (pv 3) (pa_cons (pv 2) (pa_cons (pv 5) pa_nil)))) (pa_cons (pe_ix ix_tup (pv 4) pe_int (fun _ _ => rfl)) pa_nil))) (pa_cons (pe_tup (pa_cons (pe_call (ok_doubled T) (hr.mono (by decide)) (by rfl) T.g_doubled T.F_doubled.kp T.b_doubled .nil pass0 (pa_cons (pv 3) (pa_cons (pv 4) (pa_cons (pv 2) pa_nil)))) (pa_cons (pe_ix ix_tup (pv 5) pe_int (fun _ _ => rfl)) pa_nil))) pa_nil))))) (pg_tup rfl (pgs_cons (pg_name (i := 8) sc_weights_in.nd rfl (Or.inl rfl)) (pgs_cons (pg_name (i := 9) sc_weights_in.nd rfl (Or.inl rfl)) pgs_nil)))
  (pss_one (ps_expr (pe_bm PySem.F.plainAttrs_list PySem.F.slot_list_append PySem.F.type_list_append mt_append (pv 7) (pa_cons (pe_call (ok_reduced T) (hr.mono (by decide)) (by rfl) T.g_reduced T.F_reduced.kp T.b_reduced .nil pass0 (pa_cons (pe_op op_mulW (pv 8) (pv 9)) (pa_cons (pe_op op_mulW (pv 6) (pe_ix ix_tup (pv 2) pe_int (fun _ _ => rfl))) pa_nil))) pa_nil)))))
  (pss_one (ps_ret (pe_ifExp (pt_cmpR op_gt (pe_callB (cr_min rfl) (by rfl) T.z_min (by decide +kernel) (pa_cons (pe_lc (own := [("one", 11)]) (g := gName 11) rfl sc_weights_in.nd (pi_list (pv 7)) (blkOk_by (own := [("one", 11)]) (N := nm_weights_in) (sc := defScope s_weights_in) (by decide +kernel)) (fun _ _ _ _ _ => pg_name (i := 11) sc_weights_in.nd rfl (Or.inl rfl)) (fun _ _ _ _ _ => pts_nil) (fun _ _ _ _ _ => (pe_ix (ix_tupK (K := K) rfl) (pv 11) pe_int (fun _ _ => rfl)))) pa_nil)) pe_int (nomark _)) (pe_callTy call_tuple_of (by rfl) T.z_tuple (by decide +kernel) (pa_cons (pv 7) pa_nil)) pe_non)))))))))), ?_⟩
  rw [show L2.start nm_weights_in [v, vc, vp] = [some v, some vc, some vp, none, none, none, none, none, none, none, none, none] from rfl]
  obtain ⟨xs, hx, hxs⟩ := hd.tupE
  have np := op.nm
  have getP : ∀ j, j < L.length → ∃ y, atI xs (j : Int) = some y ∧ P3 Z y (gt L j) H ∧ Ok (gt L j) ∧ Nm (gt L j) := fun j hj => by
    obtain ⟨y, _, h1, h2⟩ := atPt hxs (gt_get hj)
    have o := hok _ (gt_mem hj)
    exact ⟨y, h1, h2, o, o.nm⟩
  match js, hjs, hj1, hj3, hc with
  | [i], hjs, _, _, hc =>
    obtain ⟨y, hy, py, oy, ny⟩ := getP i (hjs i (by simp))
    refine q_when (Z := Z) (b := true) (by walk_at "w") (et_is (by walk_at "et") (by simp [iV])) (fun _ H1 e1 => ?_) (fun h => by cases h)
    have hx := hx.mono e1
    have hc := hc.mono e1
    have py := py.mono e1
    have pp := pp.mono e1
    refine s_ret (Z := Z) (R := WtR Z L [i] p) (by walk_at "w") (ev_if (b := decide (gt L i = p)) (et_test (ev_is (ev_eqDD (ev_da (by walk_at "ev") py.da) (ev_da (by walk_at "ev") pp.da) (ptD_nod _) (ptD_nod _) (ptD_sh _) (ptD_sh _)) (by rw [ptD_eqv]))) (fun hb => ?_) (fun hb => ?_)) fun v1 H2 e2 r1 => hq _ _ (by walk_at "xt") r1
    · have hb := of_decide_eq_true hb
      refine Ev.imp (ev_tupD (ds := [raD 1]) (ea_consD (ev_tupD (ds := [.int 1, .int 1]) (ea_consD (ev_da ev_c (.int 1)) (ea_consD (ev_da ev_c (.int 1)) ea_nilD)) (by simp)) ea_nilD) (by simp)) fun w H2 e2 h2 => .inr ⟨hb, [1], .one hb, fun w hw => ?_, h2⟩
      rcases List.mem_singleton.mp hw with rfl
      exact RB_one
    · have hb := of_decide_eq_false hb
      exact Ev.imp (by walk_at "ev") fun w H2 e2 h2 => .inl ⟨hb, h2⟩
  | [i, j], hjs, _, _, hc =>
    obtain ⟨y1, hy1, py1, oy1, ny1⟩ := getP i (hjs i (by simp))
    obtain ⟨y2, hy2, py2, oy2, ny2⟩ := getP j (hjs j (by simp))
    refine q_when (Z := Z) (b := false) (by walk_at "w") (et_is (by walk_at "et") (by simp [iV])) (fun h => by cases h) (fun _ H1 e1 => ?_)
    have hc1 := hc.mono e1
    refine q_when (Z := Z) (b := true) (by walk_at "w") (et_is (by walk_at "et") (by simp [iV])) (fun _ H2 e2 => ?_) (fun h => by cases h)
    have e12 := e1.trans e2
    have hx := hx.mono e12
    have hc := hc.mono e12
    have py1 := py1.mono e12
    have py2 := py2.mono e12
    have pp := pp.mono e12
    refine s_ret (Z := Z) (by walk_at "w") (ev_along (by walk_at "ev") (by walk_at "ev") (by walk_at "ev") py1 py2 pp oy1 oy2 op) fun v1 H3 e3 r1 => hq _ _ (by walk_at "xt") ?_
    rcases r1 with ⟨h1, h2⟩ | ⟨h1, t, h2, h3⟩
    · exact .inl ⟨h1, h2⟩
    · refine .inr ⟨h1, [t, 1 - t], .two h2, fun w hw => ?_, h3⟩
      simp only [List.mem_cons, List.not_mem_nil, or_false] at hw
      rcases hw with rfl | rfl
      · exact h2.s1.mono (by decide)
      · exact h2.s2
  | [i, j, k], hjs, _, _, hc =>
    obtain ⟨y1, hy1, py1, oy1, ny1⟩ := getP i (hjs i (by simp))
    obtain ⟨y2, hy2, py2, oy2, ny2⟩ := getP j (hjs j (by simp))
    obtain ⟨y3, hy3, py3, oy3, ny3⟩ := getP k (hjs k (by simp))
    refine q_when (Z := Z) (b := false) (by walk_at "w") (et_is (by walk_at "et") (by simp [iV])) (fun h => by cases h) (fun _ H1 e1 => ?_)
    have hc1 := hc.mono e1
    refine q_when (Z := Z) (b := false) (by walk_at "w") (et_is (by walk_at "et") (by simp [iV])) (fun h => by cases h) (fun _ H2 e2 => ?_)
    have e12 := e1.trans e2
    refine q_asgG (Z := Z) (R := DaR Z (.list ([i, j, k].map fun j => ptD (gt L j)))) (by walk_at "w") ?_ fun v1 H3 e3 r1 => ?_
    · have hcc := en_lcTP (Z := Z) (K := K) (σ := [some v, some vc, some vp, none, none, none, none, none, none, none, none, none]) (H := H2) (vs := [10]) (j := 10) (t := tYes) (xs := iV [i, j, k]) (tl := tVar 1) (te := tOp (rIxT K) (tVar 0) (tVar 10)) [i, j, k] (fun _ => true) (fun j => ptD (gt L j)) (by walk_at "ev") (hc.mono e12) (iV_len _) (by simp) (fun x => rfl) (fun j _ => ptD_noL _) (fun i x a H2 e2 _ _ => et_yes) (fun m x m' H5 e5 hi hj _ => ?_)
      · rw [filter_yes] at hcc
        exact hcc.da
      · rw [iV_get hj] at hi
        cases hi
        obtain ⟨y, hy, hpy, _, _⟩ := getP m' (hjs m' (List.mem_of_getElem? hj))
        have hx2 := hx.mono (e12.trans e5)
        exact ev_da (by walk_at "ev") (hpy.mono (e12.trans e5)).da
    obtain ⟨zs, hz, hzs⟩ := Da.lstE r1
    obtain ⟨va, vb, vcc, rfl, z1, z2, z3⟩ := da3 hzs
    refine g_lst3 hz ?_
    have pa := P3.of z1
    have pb := P3.of z2
    have pc := P3.of z3
    have pp3 := pp.mono (e12.trans e3)
    generalize ha : gt L i = a at *
    generalize hb' : gt L j = b at *
    generalize hc' : gt L k = c at *
    refine q_asg (Z := Z) (by walk_at "w") (by walk_at "ev") fun v2 H4 e4 r2 => ?_
    subst r2
    have db := det_B ny1 ny2 ny3
    refine q_when (Z := Z) (by walk_at "w") (by walk_at "et") (fun hb0 H5 e5 => ?_) (fun hb0 H5 e5 => ?_)
    · have h0 : det a b c = 0 := by simpa using hb0
      refine s_ret (Z := Z) (by walk_at "w") (by walk_at "ev") fun v3 H6 e6 r3 => hq _ _ (by walk_at "xt") (.inl ⟨fun h => ?_, r3⟩)
      have h1 : inTri (gt L i) (gt L j) (gt L k) p := h
      rw [ha, hb', hc'] at h1
      have := h1.1
      rw [h0] at this
      omega
    · have h0 : det a b c ≠ 0 := by simpa using hb0
      have h0i : det (gt L i) (gt L j) (gt L k) ≠ 0 := by rw [ha, hb', hc']; exact h0
      have e35 := e4.trans e5
      have pa := pa.mono e35
      have pb := pb.mono e35
      have pc := pc.mono e35
      have pp := pp3.mono e35
      have hwz : det a b c * p.w ≠ 0 := fun z => h0 (mul0 z (by have := np.p; omega))
      refine q_asgN (Z := Z) (by walk_at "w") (en_lst' ea_nil (by simp)) fun f H6 ff nf e6 ⟨hf6, _⟩ => ?_
      have pa6 := pa.mono e6
      have pb6 := pb.mono e6
      have pc6 := pc.mono e6
      have pp6 := pp.mono e6
      have d1 := det_B np ny2 ny3
      have d2 := det_B ny1 np ny3
      have d3 := det_B ny1 ny2 np
      refine q_forNL (Z := Z) (by walk_at "w") (RN := fun x H7 => ∃ la t1 t2 t3, x = .ref la ∧ la ≠ f ∧ ¬ Z.S la ∧ H7 la = some (.lst [t1, t2, t3]) ∧ TuR Z [.int (det p b c), .int a.w] t1 H7 ∧ TuR Z [.int (det a p c), .int b.w] t2 H7 ∧ TuR Z [.int (det a b p), .int c.w] t3 H7) ?_ fun x H7 e7 ⟨la, t1, t2, t3, hx7, hla, nla, hla7, ht1, ht2, ht3⟩ => ?_
      · intro H7 e7 Q q7
        refine (en_lst (Z := Z) (RA := fun us H8 => ∃ t1 t2 t3, us = [t1, t2, t3] ∧ TuR Z [.int (det p b c), .int a.w] t1 H8 ∧ TuR Z [.int (det a p c), .int b.w] t2 H8 ∧ TuR Z [.int (det a b p), .int c.w] t3 H8)
          (ea_consX (ev_tup (ea_cons (ev_doubled (by walk_at "ev") (by walk_at "ev") (by walk_at "ev") pp6 pb6 pc6 np ny2 ny3) (ea_cons (by walk_at "ev") ea_nil)) (by simp)) fun t1 H8 e8 h1 =>
            ea_consX (ev_tup (ea_cons (ev_doubled (by walk_at "ev") (by walk_at "ev") (by walk_at "ev") (pa6.mono e8) (pp6.mono e8) (pc6.mono e8) ny1 np ny3) (ea_cons (ev_pw (by walk_at "ev") (pb6.mono e8) ev_c) ea_nil)) (by simp)) fun t2 H9 e9 h2 =>
            ea_consX (ev_tup (ea_cons (ev_doubled (by walk_at "ev") (by walk_at "ev") (by walk_at "ev") (pa6.mono (e8.trans e9)) (pb6.mono (e8.trans e9)) (pp6.mono (e8.trans e9)) ny1 ny2 np) (ea_cons (ev_pw (by walk_at "ev") (pc6.mono (e8.trans e9)) ev_c) ea_nil)) (by simp)) fun t3 H10 e10 h3 =>
            ea_nilX fun H11 e11 => ⟨t1, t2, t3, rfl, h1.mono (e9.trans (e10.trans e11)), h2.mono (e10.trans e11), h3.mono e11⟩) (fun us H1 ⟨_, _, _, hw, _⟩ => by rw [hw]; simp)) H7 e7 Q fun q H8 n8 ns8 e8 ⟨us, H9, ⟨t1, t2, t3, hus, k1, k2, k3⟩, _, e9, hq8, _⟩ => q7 _ _ e8 ⟨q, t1, t2, t3, rfl, fun z => ?_, ns8, by rw [hq8, hus], k1.mono e9, k2.mono e9, k3.mono e9⟩
        exact n8.ne (e7.kp _ _ nf hf6) z.symm
      subst hx7
      refine ⟨[t1, t2, t3], ⟨la, rfl, hla7, nla⟩, fun m σ' H8 => ∃ (y8 y9 : Option V) (zs : List V), σ' = [some v, some vc, some vp, some va, some vb, some vcc, some (.int (det a b c)), some (.ref f), y8, y9, none, none] ∧ Xt Z H5 H8 ∧ H8 f = some (.lst zs) ∧ DaL Z H8 zs (((triW a b c p).take m).map raD) ∧ H8 la = some (.lst [t1, t2, t3]) ∧ TuR Z [.int (det p b c), .int a.w] t1 H8 ∧ TuR Z [.int (det a p c), .int b.w] t2 H8 ∧ TuR Z [.int (det a b p), .int c.w] t3 H8, ?_, ?_, ?_, ?_⟩
      · exact ⟨none, none, [], rfl, e6.trans e7, e7.kp _ _ nf hf6, .nil, hla7, ht1, ht2, ht3⟩
      · rintro m σ' H8 ⟨_, _, _, _, _, _, _, h, _⟩
        exact ⟨la, rfl, h, nla⟩
      · rintro m y σ' H8 hy ⟨y8, y9, zs, rfl, e8, hf8, hzs8, hla8, k1, k2, k3⟩
        obtain ⟨n, w', hT, bn, bw, htw⟩ : ∃ n w', TuR Z [.int n, .int w'] y H8 ∧ B 200 n ∧ B 64 w' ∧ (triW a b c p)[m]? = some (Rat.divInt (n * w') (det a b c * p.w)) := by
          match m, hy with
          | 0, hy => cases hy; exact ⟨_, _, k1, d1, ny1.w, rfl⟩
          | 1, hy => cases hy; exact ⟨_, _, k2, d2, ny2.w, rfl⟩
          | 2, hy => cases hy; exact ⟨_, _, k3, d3, ny3.w, rfl⟩
        have pp8 := pp.mono e8
        refine g_tup2 hT ?_
        have hm3 : m < 3 := (List.getElem?_eq_some_iff.mp hy).1
        have hzl := hzs8.length
        have npw := np.w
        refine s_app (Z := Z) (l := f) (xs := zs) (by walk_at "w") hf8 nf (by walk_at "ev") (ev_reduced (ev_iC (by walk_at "ev") (by walk_at "ev") (B.cmul bn bw (by decide))) (ev_iC (by walk_at "ev") (by walk_at "ev") (B.cmul db npw (by decide))) hwz ((db.mul npw).mono (by decide))) (by simp at hzl; omega) fun w H9 e9 r9 hf9 => ?_
        refine ⟨_, _, zs ++ [w], rfl, Xt.mut (e8.trans e9) ff nf hf9, upd_same, ?_, ?_, TuR.mut hf9 (k1.mono e9), TuR.mut hf9 (k2.mono e9), TuR.mut hf9 (k3.mono e9)⟩
        · rw [List.take_succ, htw, List.map_append]
          exact (DaL.mut hf9 (ras_noL _) (hzs8.mono e9)).append (.cons (Da.mut hf9 (raD_noL _) (Ra.da r9)) .nil)
        · rw [upd_ne hla]
          exact e9.kp _ _ nla hla8
      · rintro σ' H8 ⟨y8, y9, zs, rfl, e8, hf8, hzs8, hla8, k1, k2, k3⟩
        have hz8 : LiR Z zs (.ref f) H8 := ⟨f, rfl, hf8, nf⟩
        have hzl : zs.length = (triW a b c p).length := by rw [hzs8.length]; simp [triW]
        rw [show ((triW a b c p).take [t1, t2, t3].length) = triW a b c p from rfl] at hzs8
        have hit := inTri_iff (a := a) (b := b) (c := c) (p := p) ny1.p ny2.p ny3.p np.p h0
        refine s_ret (Z := Z) (R := WtR Z L [i, j, k] p) (by walk_at "w") (ev_if (b := decide (∀ y ∈ (triW a b c p).map Rat.num, 0 < y)) (et_minpos ?_ (by simp [triW])) (fun hb => ?_) (fun hb => ?_)) fun v1 H9 e9 r1 => hq _ _ (by walk_at "xt") r1
        · have hcc := en_lcLP (Z := Z) (K := K) (σ := [some v, some vc, some vp, some va, some vb, some vcc, some (.int (det a b c)), some (.ref f), y8, y9, none, none]) (H := H8) (vs := [11]) (j := 11) (t := tYes) (xs := zs) (tl := tVar 7) (te := tOp (rIxT K) (tVar 11) (tC (.int 0))) (triW a b c p) (fun _ => true) (fun q => .int q.num) (RN := IsV (.ref f)) (by walk_at "ev") (fun w H9 e9 hw9 => by rw [hw9]; exact hz8.mono e9) hzl (by simp [triW]) (fun x => rfl) (fun q _ => by simp [noL]) (fun i x a H2 e2 _ _ => et_yes) (fun m x q H9 e9 hi hj _ => ?_)
          · rw [filter_yes] at hcc
            rw [List.map_map]
            exact hcc.da
          · obtain ⟨q', hq', hd'⟩ := getD hzs8 hi
            rw [hj] at hq'
            cases hq'
            have hr9 : TuR Z [.int q.num, .int (q.den : Int)] x H9 := TuR.mono e9 (Ra.of hd')
            exact ev_da (by walk_at "ev") (.int _)
        · have hb := of_decide_eq_true hb
          have hpos : ∀ w ∈ triW a b c p, 0 < w := fun w hw => (num_pos_iff w).mpr (hb _ (List.mem_map_of_mem hw))
          have hin : In L p [i, j, k] := by
            show inTri (gt L i) (gt L j) (gt L k) p
            rw [ha, hb', hc']
            exact hit.mpr hpos
          have hwt : Wt L [i, j, k] p (triW a b c p) := by
            have := Wt.three (L := L) (i := i) (j := j) (k := k) (p := p) (by rw [ha]; exact ny1.p) (by rw [hb']; exact ny2.p) (by rw [hc']; exact ny3.p) np.p h0i (by rw [ha, hb', hc']; exact hpos)
            rw [ha, hb', hc'] at this
            exact this
          refine Ev.imp (ev_tupOfD (ds := (triW a b c p).map raD) (Ev.imp (by walk_at "ev") fun w H9 e9 hw9 => by rw [hw9]; exact (hz8.mono e9).da (hzs8.mono e9))) fun w H9 e9 h9 => .inr ⟨hin, triW a b c p, hwt, fun w hw => ?_, h9⟩
          have rb : ∀ n w', B 200 n → B 64 w' → RB 400 (Rat.divInt (n * w') (det a b c * p.w)) := fun n w' h1 h2 => (RB.mk2 hwz (h1.mul h2) (db.mul np.w)).mono (by decide)
          simp only [triW, List.mem_cons, List.not_mem_nil, or_false] at hw
          rcases hw with rfl | rfl | rfl
          · exact rb _ _ d1 ny1.w
          · exact rb _ _ d2 ny2.w
          · exact rb _ _ d3 ny3.w
        · have hb := of_decide_eq_false hb
          refine Ev.imp (by walk_at "ev") fun w H9 e9 h9 => .inl ⟨fun h => hb fun y hy => ?_, h9⟩
          have h1 : inTri (gt L i) (gt L j) (gt L k) p := h
          rw [ha, hb', hc'] at h1
          obtain ⟨q, hq', rfl⟩ := List.mem_map.mp hy
          exact (num_pos_iff q).mp (hit.mp h1 q hq')
  | [], _, h, _, _ => exact absurd h (by simp)
  | _ :: _ :: _ :: _ :: _, _, _, h, _ =>
    simp at h
section
variable {Z : Wd} {σ : L2.St} {H : Hp} {ta tb tc : TE} {E : XK}
theorem ev_weights_in {v vc vp : V} {L : List Pt} {js : List Nat} {p : Pt} (h1 : Ev Z ta σ H (IsV v)) (h2 : Ev Z tb σ H (IsV vc)) (h3 : Ev Z tc σ H (IsV vp)) (hd : Da Z H v (.tuple (L.map ptD))) (hc : TuR Z (iV js) vc H) (pp : P3 Z vp p H) (hok : ∀ q ∈ L, Ok q) (op : Ok p) (hjs : ∀ j ∈ js, j < L.length) (hj1 : 1 ≤ js.length) (hj3 : js.length ≤ 3) :
    Ev Z (tCall (spOf G_weights_in) [] E (tCons ta (tCons tb (tCons tc tNil)))) σ H (WtR Z L js p) :=
  ev_call (ea_cons h1 (ea_cons h2 (ea_cons h3 ea_nil))) fun H1 e => ⟨v, vc, vp, L, js, p, rfl, hd.mono e, hc.mono e, pp.mono e, hok, op, hjs, hj1, hj3, rfl⟩
end
end
end Hk
/-! ## G5 -/
/-! the hull of points, a region, barriers -/
namespace Hk
/-- C: the corners of the hull of L, counterclockwise from the least -/
structure IsHull (C L : List Pt) : Prop where
  ne : 0 < C.length
  sub : ∀ c ∈ C, c ∈ L
  edge : 2 ≤ C.length → ∀ i, i < C.length → ∀ q ∈ L, 0 ≤ det (gt C i) (gt C ((i + 1) % C.length)) q
  conv : ∀ i j k, i < j → j < k → k < C.length → 0 < det (gt C i) (gt C j) (gt C k)
  nd : ∀ i j, i < j → j < C.length → gt C i ≠ gt C j
  least : ∀ q ∈ L, q = gt C 0 ∨ plt (gt C 0) q
  two : C.length = 2 → ∀ q ∈ L, q = gt C 1 ∨ plt q (gt C 1)
  one : C.length = 1 → ∀ q ∈ L, q = gt C 0
/-- the closed region of corners -/
def Reg (C : List Pt) (p : Pt) : Prop :=
  (C.length = 1 ∧ p = gt C 0) ∨ (C.length = 2 ∧ (p = gt C 0 ∨ p = gt C 1 ∨ inSeg (gt C 0) (gt C 1) p)) ∨ (3 ≤ C.length ∧ ∀ i, i < C.length → 0 ≤ det (gt C i) (gt C ((i + 1) % C.length)) p)
structure Bar (L : List Pt) (p : Pt) (u v s : Int) : Prop where
  all : ∀ q ∈ L, u * q.x + v * q.y ≤ s * q.w
  out : s * p.w < u * p.x + v * p.y
def wpr (E : List Pt) : Int := E.foldl (fun f p => f * p.w) 1
theorem wpr_fold : ∀ (E : List Pt) (f : Int), 0 < f → (∀ e ∈ E, 0 < e.w) → 0 < E.foldl (fun f p => f * p.w) f ∧ f ∣ E.foldl (fun f p => f * p.w) f ∧ ∀ e ∈ E, e.w ∣ E.foldl (fun f p => f * p.w) f
  | [], f, hf, _ => ⟨hf, Int.dvd_refl f, fun p hp => by cases hp⟩
  | q :: r, f, hf, hw => by
    have h1 := Int.mul_pos hf (hw q (by simp))
    obtain ⟨k1, k2, k3⟩ := wpr_fold r (f * q.w) h1 fun p hp => hw p (List.mem_cons_of_mem _ hp)
    refine ⟨k1, Int.dvd_trans ⟨q.w, rfl⟩ k2, fun p hp => ?_⟩
    rcases List.mem_cons.mp hp with rfl | hp
    · exact Int.dvd_trans ⟨f, Int.mul_comm _ _⟩ k2
    · exact k3 p hp
theorem wpr_pos {E : List Pt} (h : ∀ e ∈ E, 0 < e.w) : 0 < wpr E := (wpr_fold E 1 (by omega) h).1
theorem wpr_dvd {E : List Pt} (h : ∀ e ∈ E, 0 < e.w) {e : Pt} (he : e ∈ E) : e.w ∣ wpr E := (wpr_fold E 1 (by omega) h).2.2 e he
def bval (u v : Int) (E : List Pt) (e : Pt) : Int := (u * e.x + v * e.y) * ((wpr E).fdiv e.w)
theorem bval_w {u v : Int} {E : List Pt} (h : ∀ e ∈ E, 0 < e.w) {e : Pt} (he : e ∈ E) : bval u v E e * e.w = (u * e.x + v * e.y) * wpr E := by
  unfold bval
  have hd := wpr_dvd h he
  rw [Int.fdiv_eq_ediv_of_dvd hd]
  obtain ⟨k, hk⟩ := hd
  have e1 : wpr E / e.w = k := by rw [hk]; exact Int.mul_ediv_cancel_left k (by have := h e he; omega)
  rw [e1, hk]
  grind
theorem le_of_mulw {a b w : Int} (hw : 0 < w) (h : a * w ≤ b * w) : a ≤ b := by
  rcases Int.lt_or_le b a with g | g
  · have := Int.mul_lt_mul_of_pos_right g hw
    omega
  · exact g
theorem lt_of_mulw {a b w : Int} (hw : 0 < w) (h : a * w < b * w) : a < b := by
  rcases Int.lt_or_le a b with g | g
  · exact g
  · have := Int.mul_le_mul_of_nonneg_right g (Int.le_of_lt hw)
    omega
theorem bar_of {L E : List Pt} {p c : Pt} {u v best : Int} (hw : ∀ q ∈ L, 0 < q.w) (pw : 0 < p.w) (sub : ∀ e ∈ E, e ∈ L) (hc : c ∈ E) (hq : ∀ q ∈ L, (u * q.x + v * q.y) * c.w ≤ (u * c.x + v * c.y) * q.w) (hp : (u * c.x + v * c.y) * p.w < (u * p.x + v * p.y) * c.w)
    (b1 : best ∈ E.map (bval u v E)) (b2 : ∀ y ∈ E.map (bval u v E), y ≤ best) : Bar L p (u * wpr E) (v * wpr E) best := by
  have hwE : ∀ e ∈ E, 0 < e.w := fun e he => hw e (sub e he)
  have hW := wpr_pos hwE
  have cw := hwE c hc
  refine ⟨fun q hqL => ?_, ?_⟩
  · have k1 := b2 _ (List.mem_map_of_mem hc)
    have k2 := bval_w (u := u) (v := v) hwE hc
    have qw := hw q hqL
    refine le_of_mulw cw ?_
    have e1 : (u * wpr E * q.x + v * wpr E * q.y) * c.w = (u * q.x + v * q.y) * c.w * wpr E := by grind
    have e2 := Int.mul_le_mul_of_nonneg_right (hq q hqL) (Int.le_of_lt hW)
    have e3 : (u * c.x + v * c.y) * q.w * wpr E = bval u v E c * (c.w * q.w) := by grind
    have e4 := Int.mul_le_mul_of_nonneg_right k1 (Int.le_of_lt (Int.mul_pos cw qw))
    have e5 : best * q.w * c.w = best * (c.w * q.w) := by grind
    omega
  · obtain ⟨e0, he0, rfl⟩ := List.mem_map.mp b1
    have ew := hwE e0 he0
    have k2 := bval_w (u := u) (v := v) hwE he0
    refine lt_of_mulw (Int.mul_pos ew cw) ?_
    have e1 : bval u v E e0 * p.w * (e0.w * c.w) = (u * e0.x + v * e0.y) * c.w * (wpr E * p.w) := by grind
    have e2 := Int.mul_le_mul_of_nonneg_right (hq e0 (sub e0 he0)) (Int.le_of_lt (Int.mul_pos hW pw))
    have e3 : (u * c.x + v * c.y) * e0.w * (wpr E * p.w) = (u * c.x + v * c.y) * p.w * (wpr E * e0.w) := by grind
    have e4 := Int.mul_lt_mul_of_pos_right hp (Int.mul_pos hW ew)
    have e5 : (u * wpr E * p.x + v * wpr E * p.y) * (e0.w * c.w) = (u * p.x + v * p.y) * c.w * (wpr E * e0.w) := by grind
    omega
/-! the three kinds -/
def dt (a b c d : Pt) : Int := lx a b * lx c d + ly a b * ly c d
theorem sq_pos {x y : Int} (h : x ≠ 0 ∨ y ≠ 0) : 0 < x * x + y * y := by
  have k : ∀ z : Int, 0 ≤ z * z ∧ (z ≠ 0 → 0 < z * z) := fun z => by
    rcases Int.lt_trichotomy z 0 with g | g | g
    · have := Int.mul_pos (show 0 < -z by omega) (show 0 < -z by omega)
      rw [Int.neg_mul_neg] at this
      exact ⟨by omega, fun _ => this⟩
    · subst g; simp
    · have := Int.mul_pos g g
      exact ⟨by omega, fun _ => this⟩
  rcases h with h | h
  · have := (k x).2 h
    have := (k y).1
    omega
  · have := (k y).2 h
    have := (k x).1
    omega
theorem lxy_ne {a b : Pt} (ha : Ok a) (hb : Ok b) (h : a ≠ b) : lx a b ≠ 0 ∨ ly a b ≠ 0 := by
  by_cases h1 : lx a b = 0
  · right
    exact fun h2 => h (canon ha hb h1 h2)
  · left; exact h1
/-- c1 before c2 before c3 on a line -/
theorem dt_pos {a b c : Pt} (wa : 0 < a.w) (wb : 0 < b.w) (wc : 0 < c.w) (hd : det a c b = 0) (h1 : plt a b) (h2 : plt b c) : 0 < dt a b b c := by
  obtain ⟨k1, k2⟩ := seg1 wa wc wb hd h1 h2
  unfold dt
  by_cases h0 : lx a c = 0
  · obtain ⟨z1, z2, p1, p2, _⟩ := k2 h0
    have := Int.mul_pos p1 p2
    rw [z1, Int.zero_mul]
    omega
  · obtain ⟨p1, p2, _⟩ := k1 h0
    have e : lx a b * ly b c = lx b c * ly a b := by
      have e1 : det a c b * b.w = lx b c * ly a b - lx a b * ly b c := by unfold det lx ly; grind
      rw [hd, Int.zero_mul] at e1
      omega
    have m1 := Int.mul_pos p1 p2
    have m2 : 0 ≤ ly a b * ly b c := by
      have e2 : (ly a b * ly b c) * lx a b = lx b c * (ly a b * ly a b) := by
        have : ly a b * (lx a b * ly b c) = ly a b * (lx b c * ly a b) := by rw [e]
        grind
      refine nonneg_of e2 p1 (Int.mul_nonneg (Int.le_of_lt p2) ?_)
      rcases Int.lt_or_le (ly a b) 0 with g | g
      · have := Int.mul_pos (show 0 < -ly a b by omega) (show 0 < -ly a b by omega)
        rw [Int.neg_mul_neg] at this
        omega
      · exact Int.mul_nonneg g g
    omega
theorem dt_self {a b : Pt} (ha : Ok a) (hb : Ok b) (h : a ≠ b) : 0 < dt a b a b := sq_pos (lxy_ne ha hb h)
/-- .. seen from the whole -/
theorem dt_hi {a b q : Pt} (qw : 0 < q.w) (e1 : 0 ≤ dt a q q b) (e2 : 0 ≤ dt q b q b) (wa : 0 < a.w) (wb : 0 < b.w) : 0 ≤ dt a b q b := by
  have e : dt a b q b * q.w = dt a q q b * b.w + dt q b q b * a.w := by unfold dt lx ly; grind
  have m1 := Int.mul_nonneg e1 (Int.le_of_lt wb)
  have m2 := Int.mul_nonneg e2 (Int.le_of_lt wa)
  exact nonneg_of e qw (by omega)
theorem dt_lo {a b q : Pt} (qw : 0 < q.w) (e1 : 0 ≤ dt a q q b) (e2 : 0 ≤ dt a q a q) (wa : 0 < a.w) (wb : 0 < b.w) : 0 ≤ dt a b a q := by
  have e : dt a b a q * q.w = dt a q a q * b.w + dt a q q b * a.w := by unfold dt lx ly; grind
  have m1 := Int.mul_nonneg e1 (Int.le_of_lt wa)
  have m2 := Int.mul_nonneg e2 (Int.le_of_lt wb)
  exact nonneg_of e qw (by omega)
theorem dt_sq (a b : Pt) : 0 ≤ dt a b a b := by
  unfold dt
  have k : ∀ z : Int, 0 ≤ z * z := fun z => by
    rcases Int.lt_or_le z 0 with g | g
    · have := Int.mul_pos (show 0 < -z by omega) (show 0 < -z by omega)
      rw [Int.neg_mul_neg] at this
      omega
    · exact Int.mul_nonneg g g
  have := k (lx a b)
  have := k (ly a b)
  omega
section
variable {L C : List Pt} {p : Pt} {best : Int}
theorem gmem {C : List Pt} {i : Nat} (h : i < C.length) : gt C i ∈ C := gt_mem h
theorem bar_one (hok : ∀ q ∈ L, Ok q) (op : Ok p) (h : IsHull C L) (h1 : C.length = 1) (hn : ¬ Reg C p) {x y : Int} (hx : x = p.x * (gt C 0).w - (gt C 0).x * p.w) (hy : y = p.y * (gt C 0).w - (gt C 0).y * p.w)
    (b1 : best ∈ C.map (bval x y C)) (b2 : ∀ z ∈ C.map (bval x y C), z ≤ best) : Bar L p (x * wpr C) (y * wpr C) best := by
  have h0 : gt C 0 ∈ C := gmem (by omega)
  have o0 := hok _ (h.sub _ h0)
  have hne : gt C 0 ≠ p := fun e => hn (.inl ⟨h1, e.symm⟩)
  refine bar_of (c := gt C 0) (fun q hq => by have := (hok q hq).w; omega) (by have := op.w; omega) h.sub h0 (fun q hq => ?_) ?_ b1 b2
  · rw [h.one h1 q hq]
    omega
  · have hd := dt_self o0 op hne
    have e : (x * p.x + y * p.y) * (gt C 0).w - (x * (gt C 0).x + y * (gt C 0).y) * p.w = dt (gt C 0) p (gt C 0) p := by
      rw [hx, hy]
      unfold dt lx ly
      grind
    omega
theorem bar_edge (hok : ∀ q ∈ L, Ok q) (op : Ok p) (h : IsHull C L) (h2 : 2 ≤ C.length) {i : Nat} (hi : i < C.length) {a b : Pt} (ha : a = gt C i) (hb : b = gt C ((i + 1) % C.length)) (hp : det a b p < 0) {u v : Int} (hu : u = -(a.y * b.w - b.y * a.w)) (hv : v = -(b.x * a.w - a.x * b.w))
    (b1 : best ∈ C.map (bval u v C)) (b2 : ∀ z ∈ C.map (bval u v C), z ≤ best) : Bar L p (u * wpr C) (v * wpr C) best := by
  have h0 : a ∈ C := by rw [ha]; exact gmem hi
  have oa := hok _ (h.sub _ h0)
  have e : ∀ q : Pt, (u * a.x + v * a.y) * q.w - (u * q.x + v * q.y) * a.w = det a b q * a.w := fun q => by
    rw [hu, hv]
    unfold det
    grind
  refine bar_of (c := a) (fun q hq => by have := (hok q hq).w; omega) (by have := op.w; omega) h.sub h0 (fun q hq => ?_) ?_ b1 b2
  · have k := h.edge h2 i hi q hq
    rw [← ha, ← hb] at k
    have := Int.mul_nonneg k (show 0 ≤ a.w by have := oa.w; omega)
    have := e q
    omega
  · have := Int.mul_pos (show 0 < - det a b p by omega) (show 0 < a.w by have := oa.w; omega)
    rw [Int.neg_mul] at this
    have := e p
    omega
/-- all of L on a segment -/
theorem two_seg (hok : ∀ q ∈ L, Ok q) (h : IsHull C L) (h2 : C.length = 2) {q : Pt} (hq : q ∈ L) : q = gt C 0 ∨ q = gt C 1 ∨ (det (gt C 0) (gt C 1) q = 0 ∧ plt (gt C 0) q ∧ plt q (gt C 1)) := by
  rcases h.least q hq with h1 | h1
  · exact .inl h1
  · rcases h.two h2 q hq with h3 | h3
    · exact .inr (.inl h3)
    · have e1 := h.edge (by omega) 0 (by omega) q hq
      have e2 := h.edge (by omega) 1 (by omega) q hq
      rw [h2] at e1 e2
      have e3 : 0 ≤ det (gt C 0) (gt C 1) q := e1
      have e4 : 0 ≤ det (gt C 1) (gt C 0) q := e2
      rw [det_sw] at e4
      exact .inr (.inr ⟨by omega, h1, h3⟩)
theorem bar_hi (hok : ∀ q ∈ L, Ok q) (op : Ok p) (h : IsHull C L) (h2 : C.length = 2) {a b : Pt} (ha : a = gt C 0) (hb : b = gt C 1) {x y : Int} (hx : x = b.x * a.w - a.x * b.w) (hy : y = b.y * a.w - a.y * b.w) (hp : (x * b.x + y * b.y) * p.w < (x * p.x + y * p.y) * b.w)
    (b1 : best ∈ C.map (bval x y C)) (b2 : ∀ z ∈ C.map (bval x y C), z ≤ best) : Bar L p (x * wpr C) (y * wpr C) best := by
  have ma : a ∈ C := by rw [ha]; exact gmem (by omega)
  have mb : b ∈ C := by rw [hb]; exact gmem (by omega)
  have oa := hok _ (h.sub _ ma)
  have ob := hok _ (h.sub _ mb)
  refine bar_of (c := b) (fun q hq => by have := (hok q hq).w; omega) (by have := op.w; omega) h.sub mb (fun q hq => ?_) hp b1 b2
  have oq := hok q hq
  have e : (x * b.x + y * b.y) * q.w - (x * q.x + y * q.y) * b.w = dt a b q b := by
    rw [hx, hy]; unfold dt lx ly; grind
  have k : 0 ≤ dt a b q b := by
    have s := two_seg hok h h2 hq
    rw [← ha, ← hb] at s
    rcases s with rfl | rfl | ⟨s1, s2, s3⟩
    · exact dt_sq q b
    · unfold dt lx ly; simp [Int.sub_self]
    · exact dt_hi (by have := oq.w; omega) (Int.le_of_lt (dt_pos (by have := oa.w; omega) (by have := oq.w; omega) (by have := ob.w; omega) s1 s2 s3)) (dt_sq q b) (by have := oa.w; omega) (by have := ob.w; omega)
  omega
theorem bar_lo (hok : ∀ q ∈ L, Ok q) (op : Ok p) (h : IsHull C L) (h2 : C.length = 2) (hn : ¬ Reg C p) {a b : Pt} (ha : a = gt C 0) (hb : b = gt C 1) (hd : det a b p = 0) {x y : Int} (hx : x = b.x * a.w - a.x * b.w) (hy : y = b.y * a.w - a.y * b.w) (hp : ¬ (x * b.x + y * b.y) * p.w < (x * p.x + y * p.y) * b.w)
    (b1 : best ∈ C.map (bval (-x) (-y) C)) (b2 : ∀ z ∈ C.map (bval (-x) (-y) C), z ≤ best) : Bar L p (-x * wpr C) (-y * wpr C) best := by
  have ma : a ∈ C := by rw [ha]; exact gmem (by omega)
  have mb : b ∈ C := by rw [hb]; exact gmem (by omega)
  have oa := hok _ (h.sub _ ma)
  have ob := hok _ (h.sub _ mb)
  have wa : 0 < a.w := by have := oa.w; omega
  have wb : 0 < b.w := by have := ob.w; omega
  have wp : 0 < p.w := by have := op.w; omega
  have hab : a ≠ b := by rw [ha, hb]; exact h.nd 0 1 (by omega) (by omega)
  have pab : plt a b := by
    rcases h.least b (h.sub _ mb) with h3 | h3
    · exact absurd h3.symm (by rw [← ha]; exact hab)
    · rw [ha]; exact h3
  refine bar_of (c := a) (fun q hq => by have := (hok q hq).w; omega) wp h.sub ma (fun q hq => ?_) ?_ b1 b2
  · have oq := hok q hq
    have e : (-x * a.x + -y * a.y) * q.w - (-x * q.x + -y * q.y) * a.w = dt a b a q := by
      rw [hx, hy]; unfold dt lx ly; grind
    have k : 0 ≤ dt a b a q := by
      have s := two_seg hok h h2 hq
      rw [← ha, ← hb] at s
      rcases s with rfl | rfl | ⟨s1, s2, s3⟩
      · unfold dt lx ly; simp [Int.sub_self]
      · exact dt_sq a q
      · exact dt_lo (by have := oq.w; omega) (Int.le_of_lt (dt_pos wa (by have := oq.w; omega) wb s1 s2 s3)) (dt_sq a q) wa wb
    omega
  · have e : (-x * p.x + -y * p.y) * a.w - (-x * a.x + -y * a.y) * p.w = dt a b p a := by
      rw [hx, hy]; unfold dt lx ly; grind
    have eb : (x * p.x + y * p.y) * b.w - (x * b.x + y * b.y) * p.w = dt a b b p := by
      rw [hx, hy]; unfold dt lx ly; grind
    have na : p ≠ a := fun z => hn (.inr (.inl ⟨h2, .inl (by rw [z, ha])⟩))
    have nb : p ≠ b := fun z => hn (.inr (.inl ⟨h2, .inr (.inl (by rw [z, hb]))⟩))
    have k : 0 < dt a b p a := by
      rcases plt_tri op oa na with g | g
      · -- p before a before b
        have := dt_pos (a := p) (b := a) (c := b) wp wa wb (by have := det_cyc p b a; have e2 := det_cyc b a p; have := det_sw a b p; omega) g pab
        have e3 : dt a b p a = dt p a a b := by unfold dt; grind
        omega
      · rcases plt_tri op ob nb with g2 | g2
        · exact absurd (.inr (.inl ⟨h2, .inr (.inr (by rw [← ha, ← hb]; exact ⟨hd, .inl ⟨g, g2⟩⟩))⟩)) hn
        · have := dt_pos (a := a) (b := b) (c := p) wa wb wp (by have := det_sw2 a b p; omega) pab g2
          omega
    omega
end
end Hk
/-! ## F11 -/
namespace Hk
open PySem PySem.Spec PyProof.Rows L2
local macro_rules | `(tactic| walk_at "bd") => `(tactic| first
  | assumption
  | exact (show B 64 _ from by unfold B; decide)
  | (refine' B.mul ?b1 ?b2; (case b1 => walk_at "bd"); (case b2 => walk_at "bd"))
  | (refine' B.sub ?b1 ?b2; (case b1 => walk_at "bd"); (case b2 => walk_at "bd"))
  | (refine' B.add ?b1 ?b2; (case b1 => walk_at "bd"); (case b2 => walk_at "bd"))
  | (refine' B.neg ?b1; (case b1 => walk_at "bd")))
local macro_rules | `(tactic| walk_at "da") => `(tactic| first
  | assumption
  | exact Da.int _
  | exact Da.non
  | exact Da.bl _
  | exact Da.str _
  | ((with_reducible refine' P3.mono (by assumption) ?d1); (case d1 => walk_at "da"))
  | ((with_reducible refine' Ra.mono (by assumption) ?d1); (case d1 => walk_at "da"))
  | ((with_reducible refine' TuR.mono (by assumption) ?d1); (case d1 => walk_at "da"))
  | ((with_reducible refine' LiR.mono (by assumption) ?d1); (case d1 => walk_at "da"))
  | ((with_reducible refine' Da.mono (by assumption) ?d1); (case d1 => walk_at "da")))
local macro_rules | `(tactic| walk_at "xt") => `(tactic| first
  | assumption
  | (refine' Xt.trans ?x1 (by assumption); (case x1 => walk_at "xt")))
local macro_rules | `(tactic| walk_at "w") => `(tactic| first
  | assumption
  | exact Xt.w2 (by assumption)
  | exact Xt.w1 (by assumption))
local macro_rules | `(tactic| walk_at "side") => `(tactic| first
  | assumption
  | (refine' B.cmul ?b1 ?b2 ?b3; (case b1 => walk_at "bd"); (case b2 => walk_at "bd"); (case b3 => first | decide | omega))
  | (refine' B.cdiv ?b1 ?b2 ?b3; (case b1 => assumption); (case b2 => walk_at "bd"); (case b3 => first | decide | omega)))
local macro_rules | `(tactic| walk_at "ea") => `(tactic| first
  | with_reducible exact ea_nil
  | ((with_reducible refine' ea_cons ?p1 ?p2); (case p1 => walk_at "ev"); (case p2 => walk_at "ea")))
local macro_rules | `(tactic| walk_at "et") => `(tactic| first
  | ((with_reducible refine' et_and ?p1 ?p2); (case p1 => walk_at "et"); (case p2 => intro _; walk_at "et"))
  | ((with_reducible refine' et_or ?p1 ?p2); (case p1 => walk_at "et"); (case p2 => intro _; walk_at "et"))
  | ((with_reducible refine' et_not ?p1); (case p1 => walk_at "et"))
  | ((with_reducible refine' et_test ?p1); (case p1 => walk_at "ev"))
  | ((with_reducible refine' et_B ?p1); (case p1 => walk_at "ev")))
local macro_rules | `(tactic| walk_at "ev") => `(tactic| first
  | with_reducible exact ev_c
  | ((with_reducible refine' ev_var ?v1); (case v1 => exact rfl))
  | ((with_reducible refine' ev_px ?p1 ?p2 ?p3); (case p1 => walk_at "ev"); (case p2 => walk_at "da"); (case p3 => with_reducible exact ev_c))
  | ((with_reducible refine' ev_py ?p1 ?p2 ?p3); (case p1 => walk_at "ev"); (case p2 => walk_at "da"); (case p3 => with_reducible exact ev_c))
  | ((with_reducible refine' ev_pw ?p1 ?p2 ?p3); (case p1 => walk_at "ev"); (case p2 => walk_at "da"); (case p3 => with_reducible exact ev_c))
  | ((with_reducible refine' ev_ixT ?p1 ?p2 ?p3 ?p4); (case p1 => walk_at "ev"); (case p2 => walk_at "da"); (case p3 => walk_at "ev"); (case p4 => first | exact rfl | assumption))
  | ((with_reducible refine' ev_ixL ?p1 ?p2 ?p3 ?p4); (case p1 => walk_at "ev"); (case p2 => walk_at "da"); (case p3 => walk_at "ev"); (case p4 => first | exact rfl | assumption))
  | ((with_reducible refine' ev_i0 ?p1 ?p2); (case p1 => walk_at "ev"); (case p2 => walk_at "ev"))
  | ((with_reducible refine' ev_iC ?p1 ?p2 ?p3); (case p1 => walk_at "ev"); (case p2 => walk_at "ev"); (case p3 => walk_at "side"))
  | ((with_reducible refine' ev_neg ?p1); (case p1 => walk_at "ev"))
  | ((with_reducible refine' ev_eq ?p1 ?p2 ?p3); (case p1 => walk_at "ev"); (case p2 => walk_at "ev"); (case p3 => exact rfl))
  | ((with_reducible refine' ev_ne ?p1 ?p2 ?p3); (case p1 => walk_at "ev"); (case p2 => walk_at "ev"); (case p3 => exact rfl))
  | ((with_reducible refine' ev_andV ?p1 ?p2); (case p1 => walk_at "ev"); (case p2 => intro _; walk_at "ev"))
  | ((with_reducible refine' ev_orV ?p1 ?p2); (case p1 => walk_at "ev"); (case p2 => intro _; walk_at "ev"))
  | ((with_reducible refine' ev_notV ?p1); (case p1 => walk_at "ev"))
  | ((with_reducible refine' ev_subB ?p1 ?p2); (case p1 => walk_at "ev"); (case p2 => walk_at "ev"))
  | ((with_reducible refine' ev_chI ?p1 ?p2 ?p3); (case p1 => walk_at "ev"); (case p2 => walk_at "ev"); (case p3 => walk_at "ev"))
  | ((with_reducible refine' ev_isInt ?p1 ?p2); (case p1 => walk_at "ev"); (case p2 => walk_at "da"))
  | ((with_reducible refine' ev_isBool ?p1 ?p2); (case p1 => walk_at "ev"); (case p2 => walk_at "da"))
  | ((with_reducible refine' ev_isStr ?p1 ?p2); (case p1 => walk_at "ev"); (case p2 => walk_at "da"))
  | ((with_reducible refine' ev_isTup ?p1 ?p2); (case p1 => walk_at "ev"); (case p2 => walk_at "da"))
  | ((with_reducible refine' ev_isLst ?p1 ?p2); (case p1 => walk_at "ev"); (case p2 => walk_at "da"))
  | ((with_reducible refine' ev_isTL ?p1 ?p2); (case p1 => walk_at "ev"); (case p2 => walk_at "da"))
  | ((with_reducible refine' ev_lenT ?p1 ?p2); (case p1 => walk_at "ev"); (case p2 => walk_at "da"))
  | ((with_reducible refine' ev_lenL ?p1 ?p2); (case p1 => walk_at "ev"); (case p2 => walk_at "da"))
  | ((with_reducible refine' ev_abs ?p1); (case p1 => walk_at "ev"))
  | ((with_reducible refine' ev_min2 ?p1 ?p2); (case p1 => walk_at "ev"); (case p2 => walk_at "ev"))
  | ((with_reducible refine' ev_int1 ?p1); (case p1 => walk_at "ev"))
  | ((with_reducible refine' ev_isN ?p1); (case p1 => walk_at "ev"))
  | ((with_reducible refine' ev_notN ?p1); (case p1 => walk_at "ev"))
  | ((with_reducible refine' ev_sign ?p1); (case p1 => walk_at "ev"))
  | ((with_reducible refine' ev_gcd ?p1 ?p2); (case p1 => walk_at "ev"); (case p2 => walk_at "ev"))
  | ((with_reducible refine' ev_is_in ?p1 ?p2 ?p3 ?p4); (case p1 => walk_at "ev"); (case p2 => walk_at "da"); (case p3 => walk_at "ev"); (case p4 => walk_at "ev"))
  | ((with_reducible refine' ev_doubled ?p1 ?p2 ?p3 ?p4 ?p5 ?p6 ?p7 ?p8 ?p9); (case p1 => walk_at "ev"); (case p2 => walk_at "ev"); (case p3 => walk_at "ev"); (case p4 => walk_at "da"); (case p5 => walk_at "da"); (case p6 => walk_at "da"); (case p7 => assumption); (case p8 => assumption); (case p9 => assumption))
  | ((with_reducible refine' ev_order_of ?p1 ?p2 ?p3 ?p4 ?p5 ?p6); (case p1 => walk_at "ev"); (case p2 => walk_at "ev"); (case p3 => walk_at "da"); (case p4 => walk_at "da"); (case p5 => assumption); (case p6 => assumption))
  | ((with_reducible refine' ev_turn_of ?p1 ?p2 ?p3 ?p4 ?p5 ?p6 ?p7 ?p8 ?p9); (case p1 => walk_at "ev"); (case p2 => walk_at "ev"); (case p3 => walk_at "ev"); (case p4 => walk_at "da"); (case p5 => walk_at "da"); (case p6 => walk_at "da"); (case p7 => assumption); (case p8 => assumption); (case p9 => assumption))
  | ((with_reducible refine' ev_is_between ?p1 ?p2 ?p3 ?p4 ?p5 ?p6 ?p7 ?p8 ?p9); (case p1 => walk_at "ev"); (case p2 => walk_at "ev"); (case p3 => walk_at "ev"); (case p4 => walk_at "da"); (case p5 => walk_at "da"); (case p6 => walk_at "da"); (case p7 => assumption); (case p8 => assumption); (case p9 => assumption)))
section
variable {P : Program} {w : World} {K : PySem.W.Frag} {mg : Str → Option Value} {base : Heap}
theorem pt_list {Z : Wd} {H : Hp} {E : List Pt} {v : V} (h : Da Z H v (.list (E.map ptD))) : ∃ xs, LiR Z xs v H ∧ xs.length = E.length ∧ DaL Z H xs (E.map ptD) := by
  obtain ⟨xs, h1, h2⟩ := h.lstE
  exact ⟨xs, h1, by rw [h2.length, List.length_map], h2⟩
theorem wpr_snoc (L : List Pt) (p : Pt) : wpr (L ++ [p]) = wpr L * p.w := by
  unfold wpr
  rw [List.foldl_append]
  rfl
theorem wpr_B {L : List Pt} (h : ∀ p ∈ L, Nm p) : ∀ i ≤ L.length, B (64 * i + 1) (wpr (L.take i))
  | 0, _ => by unfold B wpr; simp
  | i + 1, hi => by
    have b := wpr_B h i (by omega)
    have e : L[i]? = some L[i] := List.getElem?_eq_getElem (by omega)
    have hn := h L[i] (List.getElem_mem _)
    rw [List.take_succ, e]
    show B _ (wpr (L.take i ++ [L[i]]))
    rw [wpr_snoc]
    exact (b.mul hn.w).mono (by omega)
theorem wpr_B99 {L : List Pt} (h : ∀ p ∈ L, Nm p) (hl : L.length ≤ 90) : B 6000 (wpr L) := by
  have := wpr_B h L.length (Nat.le_refl _)
  rw [List.take_length] at this
  exact this.mono (by omega)
def outD (u v s : Int) : PyData := .tuple [.str (Str.ofString "out"), .int u, .int v, .int s]
def RsR (Z : Wd) (u v : Int) (E : List Pt) : Rl := fun x H2 => ∃ best, best ∈ E.map (bval u v E) ∧ (∀ y ∈ E.map (bval u v E), y ≤ best) ∧ Da Z H2 x (outD (u * wpr E) (v * wpr E) best)
def G_raised : Gv := fun Z vs H R => ∃ ve u v E, vs = [.int u, .int v, ve] ∧ Da Z H ve (.list (E.map ptD)) ∧ (∀ e ∈ E, Nm e) ∧ B 300 u ∧ B 300 v ∧ 1 ≤ E.length ∧ E.length ≤ 90 ∧ R = RsR Z u v E
theorem ok_raised (T : Tx K mg) : FnOk P w K mg base CX0 1 T.f_raised T.d_raised ["u", "v", "ends"] (spOf G_raised) := by
  refine T.F_raised.ok sc_raised (fun vs H Q E h => ?_) (fun cdv A outer s H vs Q E hr h => ?_)
  · obtain ⟨Z, R, _, ⟨ve, u, v, L, rfl, _⟩, _⟩ := h
    rfl
  obtain ⟨Z, R, hw, ⟨ve, u, v, L, rfl, hd, hL, bu, bv, l1, l2, rfl⟩, hq⟩ := h
  refine ⟨_, (pss_cons (ps_set (i := 3) sc_raised.nd rfl (Or.inr rfl) pe_int)
  (pss_cons (ps_for PassesOwn.never rfl (pi_list (pv 2)) (pg_name (i := 4) sc_raised.nd rfl (Or.inl rfl))
  (pss_one (ps_set (i := 3) sc_raised.nd rfl (Or.inr rfl) (pe_op op_mulW (pv 3) (pe_ix ix_tup (pv 4) pe_int (fun _ _ => rfl))))))
  (pss_cons (ps_set (i := 5) sc_raised.nd rfl (Or.inl rfl) (pe_callB (cr_max rfl) (by rfl) T.z_max (by decide +kernel) (pa_cons (pe_lc (own := [("a", 4)]) (g := gName 4) rfl sc_raised.nd (pi_list (pv 2)) (blkOk_by (own := [("a", 4)]) (N := nm_raised) (sc := defScope s_raised) (by decide +kernel)) (fun _ _ _ _ _ => pg_name (i := 4) sc_raised.nd rfl (Or.inl rfl)) (fun _ _ _ _ _ => pts_nil) (fun _ _ _ _ _ => (pe_op op_mulW (pe_op op_add (pe_op op_mulW (pv 0) (pe_ix (ix_tupK (K := K) rfl) (pv 4) pe_int (fun _ _ => rfl))) (pe_op op_mulW (pv 1) (pe_ix (ix_tupK (K := K) rfl) (pv 4) pe_int (fun _ _ => rfl)))) (pe_op op_fdivA (pv 3) (pe_ix (ix_tupK (K := K) rfl) (pv 4) pe_int (fun _ _ => rfl)))))) pa_nil)))
  (pss_one (ps_ret (pe_tup (pa_cons pe_str (pa_cons (pe_op op_mulW (pv 0) (pv 3)) (pa_cons (pe_op op_mulW (pv 1) (pv 3)) (pa_cons (pv 5) pa_nil)))))))))), ?_⟩
  rw [show L2.start nm_raised [(.int u), (.int v), ve] = [some (.int u), some (.int v), some ve, none, none, none] from rfl]
  obtain ⟨xs, hx, hlen, hxs⟩ := pt_list hd
  have wb := wpr_B99 hL l2
  have hwp : ∀ e ∈ L, 0 < e.w := fun e he => (hL e he).p
  have wp := wpr_pos hwp
  refine q_asg (Z := Z) (by walk_at "w") (by walk_at "ev") fun v1 H1 e1 r1 => ?_
  subst r1
  refine q_forL (Z := Z) (by walk_at "w") (by walk_at "ev") (hx.mono e1) (fun i σ' H' => ∃ y, σ' = [some (.int u), some (.int v), some ve, some (.int (wpr (L.take i))), y, none] ∧ Xt Z H H') (fun H2 e2 => ⟨none, rfl, by walk_at "xt"⟩) (fun i σ' H' ⟨y, _, e2⟩ => hx.mono e2) (fun i y σ' H' hy ⟨y0, es, e2⟩ => ?_) (fun σ' H' ⟨y0, es, e2⟩ => ?_)
  · subst es
    obtain ⟨p, hp, py⟩ := getPt hxs hy
    have hi : i < L.length := (List.getElem?_eq_some_iff.mp hp).1
    have hn := hL p (List.mem_of_getElem? hp)
    have b1 := wpr_B hL i (by omega)
    have py := py.mono e2
    have wb2 := hn.w
    show tAsg _ _ _ [some (.int u), some (.int v), some ve, some (.int (wpr (L.take i))), some y, none] H'
    refine s_asg (Z := Z) (by walk_at "w") (ev_iC (by walk_at "ev") (by walk_at "ev") (B.cmul b1 wb2 (by omega))) fun v1 H3 e3 r1 => ?_
    subst r1
    refine ⟨some y, ?_, by walk_at "xt"⟩
    rw [List.take_succ, hp]
    show _ = [some (.int u), some (.int v), some ve, some (.int (wpr (L.take i ++ [p]))), some y, none]
    rw [wpr_snoc]
    rfl
  · subst es
    rw [hlen, List.take_length]
    refine q_asg (Z := Z) (R := fun x _ => ∃ m, x = .int m ∧ m ∈ L.map (bval u v L) ∧ ∀ y ∈ L.map (bval u v L), y ≤ m) (by walk_at "w") (ev_max (ns := L.map (bval u v L)) ?_ (by rw [List.length_map]; omega) fun m H1 h1 h2 => ⟨m, rfl, h1, h2⟩) fun v1 H3 e3 ⟨best, r1, hb1, hb2⟩ => ?_
    · have hcc := en_lcLP (Z := Z) (K := K) (σ := [some (.int u), some (.int v), some ve, some (.int (wpr L)), y0, none]) (H := H') (vs := [4]) (j := 4) (t := tYes) (xs := xs) (tl := tVar 2)
        (te := tOp (rI CMulW fun i j => .int (i * j)) (tOp (rI0 fun i j => .int (i + j)) (tOp (rI CMulW fun i j => .int (i * j)) (tVar 0) (tOp (rIxT K) (tVar 4) (tC (.int 0)))) (tOp (rI CMulW fun i j => .int (i * j)) (tVar 1) (tOp (rIxT K) (tVar 4) (tC (.int 1))))) (tOp (rI CDivA fun i j => .int (i.fdiv j)) (tVar 3) (tOp (rIxT K) (tVar 4) (tC (.int 2)))))
        L (fun _ => true) (fun q => .int (bval u v L q)) (RN := IsV ve) (by walk_at "ev") (fun w H9 e9 hw9 => by rw [hw9]; exact hx.mono (e2.trans e9)) hlen (by omega) (fun x => rfl) (fun q _ => by simp [noL]) (fun i x a H2 e2 _ _ => et_yes) (fun m x q H9 e9 hi hj _ => ?_)
      · rw [filter_yes] at hcc
        rw [List.map_map]
        exact hcc.da
      · obtain ⟨q', hq', hd'⟩ := getPt hxs hi
        rw [hj] at hq'
        cases hq'
        have pq := hd'.mono (e2.trans e9)
        have hn := hL q (List.mem_of_getElem? hj)
        obtain ⟨n1, n2, n3, n4⟩ := hn
        have fb := fdiv_B wb wp n4 (wpr_dvd hwp (List.mem_of_getElem? hj))
        have n0 : q.w ≠ 0 := by omega
        have c0 : CMulW u q.x := B.cmul bu n1 (by decide)
        have c1 : CMulW v q.y := B.cmul bv n2 (by decide)
        have c2 : CDivA (wpr L) q.w := B.cdiv n0 n3 (by decide)
        have c3 : CMulW (u * q.x + v * q.y) ((wpr L).fdiv q.w) := B.cmul ((bu.mul n1).add (bv.mul n2)) fb (by decide)
        have c0 : B 300 u := bu
        refine Ev.imp (R := IsV (.int (bval u v L q))) (ev_iC (ev_i0 (by walk_at "ev") (by walk_at "ev")) (by walk_at "ev") c3) fun w H10 e10 hw10 => ?_
        rw [hw10]
        exact .int _
    · subst r1
      have b3 : B 300 u := bu
      refine s_ret (Z := Z) (R := DaR Z (outD (u * wpr L) (v * wpr L) best)) (by walk_at "w") (ev_tupD (ea_consD (ev_da ev_c (.str _)) (ea_consD (ev_da (ev_iC (by walk_at "ev") (by walk_at "ev") (B.cmul bu wb (by decide))) (.int _)) (ea_consD (ev_da (ev_iC (by walk_at "ev") (by walk_at "ev") (B.cmul bv wb (by decide))) (.int _)) (ea_consD (ev_da (by walk_at "ev") (.int _)) ea_nilD)))) (by simp)) fun v3 H4 e4 r3 => hq _ _ (by walk_at "xt") ⟨best, hb1, hb2, r3⟩
section
variable {Z : Wd} {σ : L2.St} {H : Hp} {ta tb tc : TE} {E : XK}
theorem ev_raised {ve : V} {u v : Int} {L : List Pt} (h1 : Ev Z ta σ H (IsV (.int u))) (h2 : Ev Z tb σ H (IsV (.int v))) (h3 : Ev Z tc σ H (IsV ve)) (hd : Da Z H ve (.list (L.map ptD))) (hL : ∀ e ∈ L, Nm e) (bu : B 300 u) (bv : B 300 v) (l1 : 1 ≤ L.length) (l2 : L.length ≤ 90) :
    Ev Z (tCall (spOf G_raised) [] E (tCons ta (tCons tb (tCons tc tNil)))) σ H (RsR Z u v L) :=
  ev_call (ea_cons h1 (ea_cons h2 (ea_cons h3 ea_nil))) fun H1 e => ⟨ve, u, v, L, rfl, hd.mono e, hL, bu, bv, l1, l2, rfl⟩
end
/-! barrier -/
def BaR (Z : Wd) (L : List Pt) (p : Pt) : Rl := fun x H2 => ∃ u v s, Bar L p u v s ∧ B 7000 u ∧ B 7000 v ∧ B 7000 s ∧ Da Z H2 x (outD u v s)
def G_barrier : Gv := fun Z vs H R => ∃ v vc vp L js p, vs = [v, vc, vp] ∧ Da Z H v (.tuple (L.map ptD)) ∧ Da Z H vc (.list (iD js)) ∧ P3 Z vp p H ∧ (∀ q ∈ L, Ok q) ∧ Ok p ∧ (∀ j ∈ js, j < L.length) ∧ js.length ≤ 90 ∧ IsHull (js.map (gt L)) L ∧ ¬ Reg (js.map (gt L)) p ∧ R = BaR Z L p
theorem bval_B {u v : Int} {E : List Pt} (hE : ∀ e ∈ E, Nm e) (bu : B 300 u) (bv : B 300 v) (l2 : E.length ≤ 90) {e : Pt} (he : e ∈ E) : B 7000 (bval u v E e) := by
  have hn := hE e he
  have hwp : ∀ e ∈ E, 0 < e.w := fun e he => (hE e he).p
  have fb := fdiv_B (wpr_B99 hE l2) (wpr_pos hwp) hn.p (wpr_dvd hwp he)
  exact (((bu.mul hn.x).add (bv.mul hn.y)).mul fb).mono (by decide)
theorem ok_barrier (T : Tx K mg) : FnOk P w K mg base CX0 3 T.f_barrier T.d_barrier ["points", "corners", "p"] (spOf G_barrier) := by
  refine T.F_barrier.ok sc_barrier (fun vs H Q E h => ?_) (fun cdv A outer s H vs Q E hr h => ?_)
  · obtain ⟨Z, R, _, ⟨v, vc, vp, L, js, p, rfl, _⟩, _⟩ := h
    rfl
  obtain ⟨Z, R, hw, ⟨v, vc, vp, L, js, p, rfl, hd, hc, pp, hok, op, hjs, hjl, hull, hreg, rfl⟩, hq⟩ := h
  refine ⟨_, (pss_cons (ps_setLc (i := 3) (own := [("at", 12)]) (g := gName 12) rfl sc_barrier.nd rfl rfl (sw_true rfl rfl rfl (by decide +kernel)) (pi_list (pv 1)) (blkOk_by (own := [("at", 12)]) (N := nm_barrier) (sc := defScope s_barrier) (by decide +kernel)) (fun _ _ _ _ _ => pg_name (i := 12) sc_barrier.nd rfl (Or.inl rfl)) (fun _ _ _ _ _ => pts_nil) (fun _ _ _ _ _ => (pe_ix (ix_tupK (K := K) rfl) (pv 0) (pv 12) (fun _ _ => rfl))))
  (pss_cons (ps_if (pt_cmpR op_eq (pe_callB call_len_seq (by rfl) T.z_len (by decide +kernel) (pa_cons (pv 3) pa_nil)) pe_int (nomark _))
  (pss_cons (ps_par (i := 7) (j := 8) rfl sc_barrier.nd rfl rfl (by decide) rfl rfl (pa_cons (pe_op op_sub (pe_op op_mulW (pe_ix ix_tup (pv 2) pe_int (fun _ _ => rfl)) (pe_ix ix_tup (pe_ix ix_list (pv 3) pe_int (fun _ _ => rfl)) pe_int (fun _ _ => rfl))) (pe_op op_mulW (pe_ix ix_tup (pe_ix ix_list (pv 3) pe_int (fun _ _ => rfl)) pe_int (fun _ _ => rfl)) (pe_ix ix_tup (pv 2) pe_int (fun _ _ => rfl)))) (pa_cons (pe_op op_sub (pe_op op_mulW (pe_ix ix_tup (pv 2) pe_int (fun _ _ => rfl)) (pe_ix ix_tup (pe_ix ix_list (pv 3) pe_int (fun _ _ => rfl)) pe_int (fun _ _ => rfl))) (pe_op op_mulW (pe_ix ix_tup (pe_ix ix_list (pv 3) pe_int (fun _ _ => rfl)) pe_int (fun _ _ => rfl)) (pe_ix ix_tup (pv 2) pe_int (fun _ _ => rfl)))) pa_nil)) (by rfl))
    (pss_one (ps_ret (pe_call (ok_raised T) (hr.mono (by decide)) (by rfl) T.g_raised T.F_raised.kp T.b_raised .nil pass0 (pa_cons (pv 7) (pa_cons (pv 8) (pa_cons (pv 3) pa_nil)))))))
  pss_nil)
  (pss_cons (ps_for PassesOwn.never rfl (pi_range1 (by rfl) T.z_range (pa_cons (pe_callB call_len_seq (by rfl) T.z_len (by decide +kernel) (pa_cons (pv 3) pa_nil)) pa_nil)) (pg_name (i := 4) sc_barrier.nd rfl (Or.inl rfl))
  (pss_cons (ps_par (i := 5) (j := 6) rfl sc_barrier.nd rfl rfl (by decide) rfl rfl (pa_cons (pe_ix ix_list (pv 3) (pv 4) (fun _ _ => rfl)) (pa_cons (pe_ix ix_list (pv 3) (pe_op op_modN (pe_op op_add (pv 4) pe_int) (pe_callB call_len_seq (by rfl) T.z_len (by decide +kernel) (pa_cons (pv 3) pa_nil))) (fun _ _ => rfl)) pa_nil)) (by rfl))
    (pss_one (ps_if (pt_cmpR op_lt (pe_call (ok_turn_of T) (hr.mono (by decide)) (by rfl) T.g_turn_of T.F_turn_of.kp T.b_turn_of .nil pass0 (pa_cons (pv 5) (pa_cons (pv 6) (pa_cons (pv 2) pa_nil)))) pe_int (nomark _))
    (pss_cons (ps_asg (pe_call (ok_line_through T) (hr.mono (by decide)) (by rfl) T.g_line_through T.F_line_through.kp T.b_line_through .nil pass0 (pa_cons (pv 5) (pa_cons (pv 6) pa_nil))) (pg_tup rfl (pgs_cons (pg_name (i := 9) sc_barrier.nd rfl (Or.inl rfl)) (pgs_cons (pg_name (i := 10) sc_barrier.nd rfl (Or.inl rfl)) (pgs_cons (pg_name (i := 11) sc_barrier.nd rfl (Or.inl rfl)) pgs_nil)))))
      (pss_one (ps_ret (pe_ifExp (pt_cmpR op_lt (pe_op op_add (pe_op op_mulW (pv 9) (pe_ix ix_tup (pv 2) pe_int (fun _ _ => rfl))) (pe_op op_mulW (pv 10) (pe_ix ix_tup (pv 2) pe_int (fun _ _ => rfl)))) (pe_op op_mulW (pv 11) (pe_ix ix_tup (pv 2) pe_int (fun _ _ => rfl))) (nomark _)) (pe_call (ok_raised T) (hr.mono (by decide)) (by rfl) T.g_raised T.F_raised.kp T.b_raised .nil pass0 (pa_cons (pe_un un_neg (pv 9)) (pa_cons (pe_un un_neg (pv 10)) (pa_cons (pv 3) pa_nil)))) (pe_call (ok_raised T) (hr.mono (by decide)) (by rfl) T.g_raised T.F_raised.kp T.b_raised .nil pass0 (pa_cons (pv 9) (pa_cons (pv 10) (pa_cons (pv 3) pa_nil))))))))
    pss_nil))))
  (pss_cons (ps_asg (pv 3) (pg_unl rfl (pgs_cons (pg_name (i := 5) sc_barrier.nd rfl (Or.inl rfl)) (pgs_cons (pg_name (i := 6) sc_barrier.nd rfl (Or.inl rfl)) pgs_nil))))
  (pss_cons (ps_par (i := 7) (j := 8) rfl sc_barrier.nd rfl rfl (by decide) rfl rfl (pa_cons (pe_op op_sub (pe_op op_mulW (pe_ix ix_tup (pv 6) pe_int (fun _ _ => rfl)) (pe_ix ix_tup (pv 5) pe_int (fun _ _ => rfl))) (pe_op op_mulW (pe_ix ix_tup (pv 5) pe_int (fun _ _ => rfl)) (pe_ix ix_tup (pv 6) pe_int (fun _ _ => rfl)))) (pa_cons (pe_op op_sub (pe_op op_mulW (pe_ix ix_tup (pv 6) pe_int (fun _ _ => rfl)) (pe_ix ix_tup (pv 5) pe_int (fun _ _ => rfl))) (pe_op op_mulW (pe_ix ix_tup (pv 5) pe_int (fun _ _ => rfl)) (pe_ix ix_tup (pv 6) pe_int (fun _ _ => rfl)))) pa_nil)) (by rfl))
  (pss_cons (ps_if (pt_cmpR op_gt (pe_op op_mulW (pe_op op_add (pe_op op_mulW (pv 7) (pe_ix ix_tup (pv 2) pe_int (fun _ _ => rfl))) (pe_op op_mulW (pv 8) (pe_ix ix_tup (pv 2) pe_int (fun _ _ => rfl)))) (pe_ix ix_tup (pv 6) pe_int (fun _ _ => rfl))) (pe_op op_mulW (pe_op op_add (pe_op op_mulW (pv 7) (pe_ix ix_tup (pv 6) pe_int (fun _ _ => rfl))) (pe_op op_mulW (pv 8) (pe_ix ix_tup (pv 6) pe_int (fun _ _ => rfl)))) (pe_ix ix_tup (pv 2) pe_int (fun _ _ => rfl))) (nomark _))
  (pss_one (ps_ret (pe_call (ok_raised T) (hr.mono (by decide)) (by rfl) T.g_raised T.F_raised.kp T.b_raised .nil pass0 (pa_cons (pv 7) (pa_cons (pv 8) (pa_cons (pv 3) pa_nil))))))
  pss_nil)
  (pss_one (ps_ret (pe_call (ok_raised T) (hr.mono (by decide)) (by rfl) T.g_raised T.F_raised.kp T.b_raised .nil pass0 (pa_cons (pe_un un_neg (pv 7)) (pa_cons (pe_un un_neg (pv 8)) (pa_cons (pv 3) pa_nil)))))))))))), ?_⟩
  rw [show L2.start nm_barrier [v, vc, vp] = [some v, some vc, some vp, none, none, none, none, none, none, none, none, none, none] from rfl]
  obtain ⟨xs, hx, hxs⟩ := hd.tupE
  obtain ⟨cs, hcs, hcs'⟩ := Da.lstE hc
  rw [i_daL hcs'] at hcs
  have np := op.nm
  generalize hC : js.map (gt L) = C at *
  have hCl : C.length = js.length := by rw [← hC, List.length_map]
  have hCn : ∀ e ∈ C, Nm e := fun e he => (hok e (hull.sub e he)).nm
  have hC1 := hull.ne
  refine q_asg (Z := Z) (R := DaR Z (.list (C.map ptD))) (by walk_at "w") ?_ fun ve H1 e1 hve => ?_
  · have hcc := en_lcLP (Z := Z) (K := K) (σ := [some v, some vc, some vp, none, none, none, none, none, none, none, none, none, none]) (H := H) (vs := [12]) (j := 12) (t := tYes) (xs := iV js) (tl := tVar 1) (te := tOp (rIxT K) (tVar 0) (tVar 12)) js (fun _ => true) (fun j => ptD (gt L j)) (RN := IsV vc) (by walk_at "ev") (fun w H9 e9 hw9 => by rw [hw9]; exact hcs.mono e9) (iV_len _) (by omega) (fun x => rfl) (fun j _ => ptD_noL _) (fun i x a H2 e2 _ _ => et_yes) (fun m x m' H5 e5 hi hj _ => ?_)
    · rw [filter_yes] at hcc
      rw [← hC, List.map_map]
      exact hcc.da
    · rw [iV_get hj] at hi
      cases hi
      obtain ⟨y, _, hy, hpy⟩ := atPt hxs (gt_get (hjs m' (List.mem_of_getElem? hj)))
      have hx2 := hx.mono e5
      exact ev_da (by walk_at "ev") (hpy.mono e5).da
  obtain ⟨es, hes, hel, hesd⟩ := pt_list hve
  have pp1 := pp.mono e1
  -- a raised line is a barrier
  have rs : ∀ {H5 x u w}, Xt Z H H5 → B 300 u → B 300 w → RsR Z u w C x H5 → (∀ best, best ∈ C.map (bval u w C) → (∀ z ∈ C.map (bval u w C), z ≤ best) → Bar L p (u * wpr C) (w * wpr C) best) → Q x H5 := fun {H5 x u w} e5 bu bw ⟨best, h1, h2, h3⟩ hb => by
    have wb := wpr_B99 hCn (by omega)
    refine hq _ _ e5 ⟨_, _, _, hb best h1 h2, (bu.mul wb).mono (by decide), (bw.mul wb).mono (by decide), ?_, h3⟩
    obtain ⟨e, he, rfl⟩ := List.mem_map.mp h1
    exact bval_B hCn bu bw (by omega) he
  show tSeq _ _ _ [some v, some vc, some vp, some ve, none, none, none, none, none, none, none, none, none] H1
  refine q_when (Z := Z) (b := decide (C.length = 1)) (by walk_at "w") (et_is (by walk_at "et") ?_) (fun hb H2 e2 => ?_) (fun hb H2 e2 => ?_)
  · rw [hel]
    refine decide_eq_decide.mpr ⟨fun h => ?_, fun h => by rw [h]; rfl⟩
    simp at h
    omega
  · have h1 := of_decide_eq_true hb
    obtain ⟨y0, _, hy0, hp0⟩ := atPt hesd (gt_get (show 0 < C.length by omega))
    have n0 := hCn _ (gt_mem (show 0 < C.length by omega))
    have hes2 := hes.mono e2
    have hp02 := hp0.mono e2
    have pp2 := pp1.mono e2
    obtain ⟨a1, a2, a3, _⟩ := id n0
    obtain ⟨p1, p2, p3, _⟩ := id np
    refine q_par (Z := Z) (by walk_at "w") (by walk_at "ea") fun vs H3 e3 hv => ⟨_, _, hv, ?_⟩
    have bx : B 300 (p.x * (gt C 0).w - (gt C 0).x * p.w) := ((p1.mul a3).sub (a1.mul p3)).mono (by decide)
    have by' : B 300 (p.y * (gt C 0).w - (gt C 0).y * p.w) := ((p2.mul a3).sub (a2.mul p3)).mono (by decide)
    refine s_ret (Z := Z) (by walk_at "w") (ev_raised (by walk_at "ev") (by walk_at "ev") (by walk_at "ev") (hve.mono (e2.trans e3)) hCn bx by' (by omega) (by omega)) fun v2 H4 e4 r2 => rs (by walk_at "xt") bx by' r2 fun best b1 b2 => bar_one hok op hull h1 hreg rfl rfl b1 b2
  · have h1 := of_decide_eq_false hb
    have e12 := e1.trans e2
    refine q_forR1 (Z := Z) (n := (es.length : Int)) (by walk_at "w") (ea_cons (ev_lenL (by walk_at "ev") (hes.mono e2)) ea_nil) ⟨by omega, by omega⟩ (fun i σ' H' => ∃ y4 y5 y6 : Option V, σ' = [some v, some vc, some vp, some ve, y4, y5, y6, none, none, none, none, none, none] ∧ Xt Z H1 H' ∧ ∀ k, k < i → 0 ≤ det (gt C k) (gt C ((k + 1) % C.length)) p) (fun H3 e3 => ⟨_, _, _, rfl, e2.trans e3, fun k hk => absurd hk (Nat.not_lt_zero _)⟩) (fun i σ' H' hi ⟨y4, y5, y6, es', e3, hk⟩ => ?_) (fun σ' H' ⟨y4, y5, y6, es', e3, hk⟩ => ?_)
    · subst es'
      have hiC : i < C.length := by omega
      have hjC : (i + 1) % C.length < C.length := Nat.mod_lt _ (by omega)
      obtain ⟨ya, _, hya, hpa⟩ := atPt hesd (gt_get hiC)
      obtain ⟨yb, _, hyb, hpb⟩ := atPt hesd (gt_get hjC)
      have na := hCn _ (gt_mem hiC)
      have nb := hCn _ (gt_mem hjC)
      have hes3 := hes.mono e3
      have hmod : ((i : Int) + 1).fmod (es.length : Int) = (((i + 1) % C.length : Nat) : Int) := by
        rw [hel, Int.fmod_eq_emod_of_nonneg _ (by omega)]
        exact (Int.natCast_emod (i + 1) C.length).symm
      have hyb' : atI es (((i : Int) + 1).fmod (es.length : Int)) = some yb := by rw [hmod]; exact hyb
      have hne : (es.length : Int) ≠ 0 := by omega
      show tSeq _ _ _ [some v, some vc, some vp, some ve, some (.int (i : Int)), y5, y6, none, none, none, none, none, none] H'
      refine q_par (Z := Z) (RA := fun us _ => us = [ya, yb]) (by walk_at "w") (ea_cons (by walk_at "ev") (ea_cons (ev_ixL (by walk_at "ev") hes3 (ev_iC (by walk_at "ev") (by walk_at "ev") hne) hyb') ea_nil)) fun vs H3 e4 hv => ⟨_, _, hv, ?_⟩
      generalize ha : gt C i = a at *
      generalize hb' : gt C ((i + 1) % C.length) = b at *
      have pa := hpa.mono (e3.trans e4)
      have pb := hpb.mono (e3.trans e4)
      have pp3 := pp1.mono (e3.trans e4)
      obtain ⟨a1, a2, a3, _⟩ := id na
      obtain ⟨b1, b2, b3, _⟩ := id nb
      obtain ⟨p1, p2, p3, _⟩ := id np
      show tIfS _ _ _ _ [some v, some vc, some vp, some ve, some (.int (i : Int)), some ya, some yb, none, none, none, none, none, none] H3
      refine s_when (Z := Z) (b := decide (det a b p < 0)) (by walk_at "w") (et_is (by walk_at "et") (decide_eq_decide.mpr (sgn_neg _))) (fun hb H4 e5 => ?_) (fun hb H4 e5 => ?_)
      · have hlt := of_decide_eq_true hb
        have pa := pa.mono e5
        have pb := pb.mono e5
        have pp4 := pp3.mono e5
        refine q_asgG (Z := Z) (by walk_at "w") (ev_call (G := G_line_through) (ea_cons (by walk_at "ev") (ea_cons (by walk_at "ev") ea_nil)) fun H5 e6 => ⟨ya, yb, a, b, rfl, pa.mono e6, pb.mono e6, na, nb, rfl⟩) fun v2 H5 e6 r2 => g_tup3 r2 ?_
        have pp5 := pp4.mono e6
        have bu : B 200 (a.y * b.w - b.y * a.w) := ((a2.mul b3).sub (b2.mul a3)).mono (by decide)
        have bv : B 200 (b.x * a.w - a.x * b.w) := ((b1.mul a3).sub (a1.mul b3)).mono (by decide)
        have bs : B 200 (b.x * a.y - a.x * b.y) := ((b1.mul a2).sub (a1.mul b2)).mono (by decide)
        have e15 := (e3.trans e4).trans (e5.trans e6)
        have hT : (a.y * b.w - b.y * a.w) * p.x + (b.x * a.w - a.x * b.w) * p.y < (b.x * a.y - a.x * b.y) * p.w := by
          have : (a.y * b.w - b.y * a.w) * p.x + (b.x * a.w - a.x * b.w) * p.y - (b.x * a.y - a.x * b.y) * p.w = det a b p := by unfold det; grind
          omega
        generalize hu : a.y * b.w - b.y * a.w = u at *
        generalize hv' : b.x * a.w - a.x * b.w = w at *
        generalize hs' : b.x * a.y - a.x * b.y = s' at *
        refine s_ret (Z := Z) (R := RsR Z (-u) (-w) C) (by walk_at "w") (ev_if (b := true) (et_is (by walk_at "et") (decide_eq_true hT)) (fun _ => ev_raised (by walk_at "ev") (by walk_at "ev") (by walk_at "ev") (hve.mono e15) hCn (bu.neg.mono (by decide)) (bv.neg.mono (by decide)) (by omega) (by omega)) (fun h => by cases h)) fun v3 H6 e7 r3 => rs (e1.trans (e15.trans e7)) (bu.neg.mono (by decide)) (bv.neg.mono (by decide)) r3 fun best z1 z2 => bar_edge hok op hull (by omega) hiC ha.symm hb'.symm hlt (by rw [hu]) (by rw [hv']) z1 z2
      · have hge := of_decide_eq_false hb
        refine ⟨_, _, _, rfl, by walk_at "xt", fun k hk' => ?_⟩
        rcases Nat.lt_or_eq_of_le (Nat.lt_succ_iff.mp hk') with g | g
        · exact hk k g
        · subst g
          rw [ha, hb']
          omega
    · subst es'
      have hall : ∀ k, k < C.length → 0 ≤ det (gt C k) (gt C ((k + 1) % C.length)) p := fun k hk' => hk k (by omega)
      have h2 : C.length = 2 := by
        rcases Nat.lt_or_ge C.length 3 with g | g
        · omega
        · exact absurd (.inr (.inr ⟨g, hall⟩)) hreg
      have hd0 : det (gt C 0) (gt C 1) p = 0 := by
        have k0 := hall 0 (by omega)
        have k1 := hall 1 (by omega)
        rw [h2] at k0 k1
        have k0' : 0 ≤ det (gt C 0) (gt C 1) p := k0
        have k1' : 0 ≤ det (gt C 1) (gt C 0) p := k1
        rw [det_sw] at k1'
        omega
      obtain ⟨c0, c1, rfl⟩ : ∃ c0 c1, C = [c0, c1] := by
        match C, h2 with
        | [c0, c1], _ => exact ⟨c0, c1, rfl⟩
      have n0 : Nm c0 := hCn c0 (by simp)
      have n1 : Nm c1 := hCn c1 (by simp)
      obtain ⟨va, vb, rfl, za, zb⟩ := da2 hesd
      have pa := (P3.of za).mono e3
      have pb := (P3.of zb).mono e3
      obtain ⟨a1, a2, a3, _⟩ := id n0
      obtain ⟨b1, b2, b3, _⟩ := id n1
      obtain ⟨p1, p2, p3, _⟩ := id np
      have pp3 := pp1.mono e3
      refine q_asgG (Z := Z) (R := IsV ve) (by walk_at "w") (by walk_at "ev") fun v2 H3 e4 r2 => ?_
      subst r2
      refine g_lst2 (hes.mono (e3.trans e4)) ?_
      have pa := pa.mono e4
      have pb := pb.mono e4
      have pp3 := pp3.mono e4
      refine q_par (Z := Z) (by walk_at "w") (by walk_at "ea") fun vs H4 e5 hv => ⟨_, _, hv, ?_⟩
      have pa := pa.mono e5
      have pb := pb.mono e5
      have pp3 := pp3.mono e5
      have bx : B 200 (c1.x * c0.w - c0.x * c1.w) := ((b1.mul a3).sub (a1.mul b3)).mono (by decide)
      have by' : B 200 (c1.y * c0.w - c0.y * c1.w) := ((b2.mul a3).sub (a2.mul b3)).mono (by decide)
      have e15 := e3.trans (e4.trans e5)
      generalize hx0 : c1.x * c0.w - c0.x * c1.w = x at *
      generalize hy0 : c1.y * c0.w - c0.y * c1.w = y at *
      refine q_when (Z := Z) (b := decide ((x * c1.x + y * c1.y) * p.w < (x * p.x + y * p.y) * c1.w)) (by walk_at "w") (et_is (by walk_at "et") rfl) (fun hb H5 e6 => ?_) (fun hb H5 e6 => ?_)
      · have hT := of_decide_eq_true hb
        refine s_ret (Z := Z) (by walk_at "w") (ev_raised (by walk_at "ev") (by walk_at "ev") (by walk_at "ev") (hve.mono (e15.trans e6)) hCn (bx.mono (by decide)) (by'.mono (by decide)) (by omega) (by omega)) fun v3 H6 e7 r3 => rs (e1.trans (e15.trans (e6.trans e7))) (bx.mono (by decide)) (by'.mono (by decide)) r3 fun best z1 z2 => bar_hi hok op hull h2 rfl rfl hx0.symm hy0.symm hT z1 z2
      · have hT := of_decide_eq_false hb
        refine s_ret (Z := Z) (by walk_at "w") (ev_raised (by walk_at "ev") (by walk_at "ev") (by walk_at "ev") (hve.mono (e15.trans e6)) hCn (bx.neg.mono (by decide)) (by'.neg.mono (by decide)) (by omega) (by omega)) fun v3 H6 e7 r3 => rs (e1.trans (e15.trans (e6.trans e7))) (bx.neg.mono (by decide)) (by'.neg.mono (by decide)) r3 fun best z1 z2 => bar_lo hok op hull h2 hreg rfl rfl hd0 hx0.symm hy0.symm hT z1 z2
section
variable {Z : Wd} {σ : L2.St} {H : Hp} {ta tb tc : TE} {E : XK}
theorem ev_barrier {v vc vp : V} {L : List Pt} {js : List Nat} {p : Pt} (h1 : Ev Z ta σ H (IsV v)) (h2 : Ev Z tb σ H (IsV vc)) (h3 : Ev Z tc σ H (IsV vp)) (hd : Da Z H v (.tuple (L.map ptD))) (hc : Da Z H vc (.list (iD js))) (pp : P3 Z vp p H) (hok : ∀ q ∈ L, Ok q) (op : Ok p) (hjs : ∀ j ∈ js, j < L.length) (hjl : js.length ≤ 90) (hh : IsHull (js.map (gt L)) L) (hr : ¬ Reg (js.map (gt L)) p) :
    Ev Z (tCall (spOf G_barrier) [] E (tCons ta (tCons tb (tCons tc tNil)))) σ H (BaR Z L p) :=
  ev_call (ea_cons h1 (ea_cons h2 (ea_cons h3 ea_nil))) fun H1 e => ⟨v, vc, vp, L, js, p, rfl, hd.mono e, hc.mono e, pp.mono e, hok, op, hjs, hjl, hh, hr, rfl⟩
end
end
end Hk
/-! ## G6 -/
/-! the fans of a hull cover its region -/
namespace Hk
inductive FanC (C : List Pt) (p : Pt) : Prop
  | v (i : Nat) (h : i < C.length) (e : p = gt C i)
  | s0 (j : Nat) (h1 : 1 ≤ j) (h : j < C.length) (e : inSeg (gt C 0) (gt C j) p)
  | s (k : Nat) (h1 : 1 ≤ k) (h : k + 1 < C.length) (e : inSeg (gt C k) (gt C (k + 1)) p)
  | t (k : Nat) (h1 : 1 ≤ k) (h : k + 1 < C.length) (e : inTri (gt C 0) (gt C k) (gt C (k + 1)) p)
theorem disc (f : Nat → Int) : ∀ n, 0 ≤ f 1 → f (n + 2) ≤ 0 → ∃ k, 1 ≤ k ∧ k ≤ n + 1 ∧ 0 ≤ f k ∧ f (k + 1) ≤ 0
  | 0, h1, h2 => ⟨1, by omega, by omega, h1, h2⟩
  | n + 1, h1, h2 => by
    by_cases h : f (n + 2) ≤ 0
    · obtain ⟨k, k1, k2, k3, k4⟩ := disc f n h1 h
      exact ⟨k, k1, by omega, k3, k4⟩
    · exact ⟨n + 2, by omega, by omega, by omega, h2⟩
theorem vert {a b c p : Pt} (oc : Ok c) (op : Ok p) (hD : det a b c ≠ 0) (h1 : det p b c = 0) (h2 : det a p c = 0) : p = c := by
  have ex := cram_x a b c p
  have ey := cram_y a b c p
  have ew := cram_w a b c p
  rw [h1, h2] at ex ey ew
  refine (canon oc op ?_ ?_).symm
  · refine mul0 (b := det a b c) ?_ hD
    unfold lx
    grind
  · refine mul0 (b := det a b c) ?_ hD
    unfold ly
    grind
theorem tri_edge {a b c p : Pt} (ob : Ok b) (oc : Ok c) (hD : 0 < det a b c) (h1 : det p b c = 0) (h2 : 0 < det a p c) (h3 : 0 < det a b p) (hbc : b ≠ c) : inSeg b c p := by
  have ex := cram_x a b c p
  have ey := cram_y a b c p
  have ew := cram_w a b c p
  rw [h1] at ex ey ew
  have e1 : lx b p * det a b c = lx b c * det a b p := by unfold lx; grind
  have e2 : ly b p * det a b c = ly b c * det a b p := by unfold ly; grind
  have e3 : lx p c * det a b c = lx b c * det a p c := by unfold lx; grind
  have e4 : ly p c * det a b c = ly b c * det a p c := by unfold ly; grind
  have sg : ∀ {x y k : Int}, x * det a b c = y * k → 0 < k → (0 < y → 0 < x) ∧ (y = 0 → x = 0) ∧ (y < 0 → x < 0) := fun {x y k} e hk => by
    refine ⟨fun h => pos_of e hD (Int.mul_pos h hk), fun h => zero_of e hD (by rw [h, Int.zero_mul]), fun h => ?_⟩
    have := pos_of (x := -x) (k := det a b c) (r := -y * k) (by rw [Int.neg_mul, e, Int.neg_mul]) hD (Int.mul_pos (by omega) hk)
    omega
  have d0 : det b c p = 0 := by rw [det_cyc]; exact h1
  refine ⟨d0, ?_⟩
  obtain ⟨a1, a2, a3⟩ := sg e1 h3
  obtain ⟨b1, b2, b3⟩ := sg e2 h3
  obtain ⟨c1, c2, c3⟩ := sg e3 h2
  obtain ⟨f1, f2, f3⟩ := sg e4 h2
  rcases plt_tri ob oc hbc with g | g
  · left
    unfold plt at *
    rcases g with g | ⟨g, g'⟩
    · exact ⟨.inl (a1 g), .inl (c1 g)⟩
    · exact ⟨.inr ⟨a2 g, b1 g'⟩, .inr ⟨c2 g, f1 g'⟩⟩
  · right
    unfold plt at *
    rw [lx_sw b c, ly_sw b c] at g
    rw [lx_sw p c, ly_sw p c, lx_sw b p, ly_sw b p]
    rcases g with g | ⟨g, g'⟩
    · have := a3 (by omega)
      have := c3 (by omega)
      exact ⟨.inl (by omega), .inl (by omega)⟩
    · have := a2 (by omega)
      have := b3 (by omega)
      have := c2 (by omega)
      have := f3 (by omega)
      exact ⟨.inr ⟨by omega, by omega⟩, .inr ⟨by omega, by omega⟩⟩
section
variable {C L : List Pt} {p : Pt}
theorem IsHull.okC (h : IsHull C L) (hok : ∀ q ∈ L, Ok q) {i : Nat} (hi : i < C.length) : Ok (gt C i) := hok _ (h.sub _ (gt_mem hi))
theorem reg_fan (hok : ∀ q ∈ L, Ok q) (op : Ok p) (h : IsHull C L) (hr : Reg C p) : FanC C p := by
  rcases hr with ⟨h1, h2⟩ | ⟨h1, h2⟩ | ⟨h3, he⟩
  · exact .v 0 (by omega) h2
  · rcases h2 with h2 | h2 | h2
    · exact .v 0 (by omega) h2
    · exact .v 1 (by omega) h2
    · exact .s0 1 (by omega) (by omega) h2
  · have f1 : 0 ≤ det (gt C 0) (gt C 1) p := by
      have := he 0 (by omega)
      rw [Nat.mod_eq_of_lt (by omega)] at this
      exact this
    have f2 : det (gt C 0) (gt C (C.length - 3 + 2)) p ≤ 0 := by
      have := he (C.length - 1) (by omega)
      rw [show C.length - 1 + 1 = C.length by omega, Nat.mod_self, det_sw] at this
      rw [show C.length - 3 + 2 = C.length - 1 by omega]
      omega
    obtain ⟨k, k1, k2, k3, k4⟩ := disc (fun k => det (gt C 0) (gt C k) p) (C.length - 3) f1 f2
    have hk : k + 1 < C.length := by omega
    have e := he k (by omega)
    rw [Nat.mod_eq_of_lt hk] at e
    have hD := h.conv 0 k (k + 1) (by omega) (by omega) hk
    have oa := h.okC hok (show 0 < C.length by omega)
    have ob := h.okC hok (show k < C.length by omega)
    have oc := h.okC hok hk
    have nab := h.nd 0 k (by omega) (by omega)
    have nac := h.nd 0 (k + 1) (by omega) hk
    have nbc := h.nd k (k + 1) (by omega) hk
    have ka : 0 ≤ det p (gt C k) (gt C (k + 1)) := by
      have := det_cyc p (gt C k) (gt C (k + 1))
      omega
    have kb : 0 ≤ det (gt C 0) p (gt C (k + 1)) := by
      have := det_sw2 (gt C 0) (gt C (k + 1)) p
      show 0 ≤ _
      have k4' : det (gt C 0) (gt C (k + 1)) p ≤ 0 := k4
      omega
    have kc : 0 ≤ det (gt C 0) (gt C k) p := k3
    by_cases za : det p (gt C k) (gt C (k + 1)) = 0
    · by_cases zb : det (gt C 0) p (gt C (k + 1)) = 0
      · exact .v (k + 1) hk (vert oc op (by omega) za zb)
      · by_cases zc : det (gt C 0) (gt C k) p = 0
        · refine .v k (by omega) (vert (a := gt C (k + 1)) (b := gt C 0) ob op ?_ ?_ ?_)
          · have := det_cyc2 (gt C 0) (gt C k) (gt C (k + 1)); omega
          · have := det_cyc2 (gt C 0) (gt C k) p; omega
          · have := det_cyc2 p (gt C k) (gt C (k + 1)); omega
        · exact .s k k1 hk (tri_edge ob oc hD za (by omega) (by omega) nbc)
    · by_cases zb : det (gt C 0) p (gt C (k + 1)) = 0
      · by_cases zc : det (gt C 0) (gt C k) p = 0
        · refine .v 0 (by omega) (vert (a := gt C k) (b := gt C (k + 1)) oa op ?_ ?_ ?_)
          · have := det_cyc (gt C 0) (gt C k) (gt C (k + 1)); omega
          · have := det_cyc (gt C 0) p (gt C (k + 1)); omega
          · have := det_cyc (gt C 0) (gt C k) p; omega
        · refine .s0 (k + 1) (by omega) hk (tri_edge (a := gt C k) (b := gt C (k + 1)) (c := gt C 0) oc oa ?_ ?_ ?_ ?_ (Ne.symm nac)).sw
          · have := det_cyc (gt C 0) (gt C k) (gt C (k + 1)); omega
          · have := det_cyc (gt C 0) p (gt C (k + 1)); omega
          · have := det_cyc (gt C 0) (gt C k) p; omega
          · have := det_cyc p (gt C k) (gt C (k + 1)); omega
      · by_cases zc : det (gt C 0) (gt C k) p = 0
        · refine .s0 k k1 (by omega) (tri_edge (a := gt C (k + 1)) (b := gt C 0) (c := gt C k) oa ob ?_ ?_ ?_ ?_ nab)
          · have := det_cyc2 (gt C 0) (gt C k) (gt C (k + 1)); omega
          · have := det_cyc2 (gt C 0) (gt C k) p; omega
          · have := det_cyc2 p (gt C k) (gt C (k + 1)); omega
          · have := det_cyc2 (gt C 0) p (gt C (k + 1)); omega
        · exact .t k k1 hk ⟨Int.mul_pos (by omega) hD, Int.mul_pos (by omega) hD, Int.mul_pos (by omega) hD⟩
def dX : Pt := ⟨0, 1, 0⟩
def dY : Pt := ⟨-1, 0, 0⟩
theorem det_dX (a b : Pt) : det a b dX = lx a b := by unfold det lx dX; grind
theorem det_dY (a b : Pt) : det a b dY = ly a b := by unfold det ly dY; grind
theorem mul_self_pos {x : Int} (h : x ≠ 0) : 0 < x * x := by
  have := sq_pos (x := x) (y := 0) (.inl h)
  omega
/-- a linear form not below 0 at both ends is so between -/
theorem seg_lin {m n a b p : Pt} (wa : 0 < a.w) (wb : 0 < b.w) (wp : 0 < p.w) (h : inSeg a b p) (h1 : 0 ≤ det m n a) (h2 : 0 ≤ det m n b) : 0 ≤ det m n p := by
  obtain ⟨sx, sy⟩ := seg2 wa wb wp h
  by_cases h0 : lx a b = 0
  · obtain ⟨_, _, n0, k1, k2⟩ := sy h0
    have e := cram m n a b dY p
    rw [h.1, det_dY, det_dY, show det a p dY = ly a p from det_dY a p] at e
    refine nonneg_of (k := ly a b * ly a b) (r := det m n a * (ly p b * ly a b) + det m n b * (ly a p * ly a b)) ?_ (mul_self_pos n0) ?_
    · grind
    · have := Int.mul_nonneg h1 (Int.le_of_lt k2)
      have := Int.mul_nonneg h2 (Int.le_of_lt k1)
      omega
  · obtain ⟨k1, k2⟩ := sx h0
    have e := cram m n a b dX p
    rw [h.1, det_dX, det_dX, show det a p dX = lx a p from det_dX a p] at e
    refine nonneg_of (k := lx a b * lx a b) (r := det m n a * (lx p b * lx a b) + det m n b * (lx a p * lx a b)) ?_ (mul_self_pos h0) ?_
    · grind
    · have := Int.mul_nonneg h1 (Int.le_of_lt k2)
      have := Int.mul_nonneg h2 (Int.le_of_lt k1)
      omega
theorem inTri.ne {a b c p : Pt} (h : inTri a b c p) : det a b c ≠ 0 := fun z => by
  have := h.1
  rw [z] at this
  omega
theorem tri_lin {m n a b c p : Pt} (h : inTri a b c p) (h1 : 0 ≤ det m n a) (h2 : 0 ≤ det m n b) (h3 : 0 ≤ det m n c) : 0 ≤ det m n p := by
  have e := cram m n a b c p
  refine nonneg_of (k := det a b c * det a b c) (r := det m n a * (det p b c * det a b c) + det m n b * (det a p c * det a b c) + det m n c * (det a b p * det a b c)) ?_ (mul_self_pos h.ne) ?_
  · grind
  · have := Int.mul_nonneg h1 (Int.le_of_lt h.1)
    have := Int.mul_nonneg h2 (Int.le_of_lt h.2.1)
    have := Int.mul_nonneg h3 (Int.le_of_lt h.2.2)
    omega
theorem okw {p : Pt} (h : Ok p) : 0 < p.w := by have := h.w; omega
theorem fan_reg (hok : ∀ q ∈ L, Ok q) (op : Ok p) (h : IsHull C L) (hf : FanC C p) : Reg C p := by
  have hne := h.ne
  by_cases m1 : C.length = 1
  · cases hf with
    | v i hi e =>
      have : i = 0 := by omega
      subst this
      exact .inl ⟨m1, e⟩
    | s0 j h1 hj e => omega
    | s k h1 hk e => omega
    | t k h1 hk e => omega
  · by_cases m2 : C.length = 2
    · cases hf with
      | v i hi e =>
        have : i = 0 ∨ i = 1 := by omega
        rcases this with rfl | rfl
        · exact .inr (.inl ⟨m2, .inl e⟩)
        · exact .inr (.inl ⟨m2, .inr (.inl e)⟩)
      | s0 j h1 hj e =>
        have : j = 1 := by omega
        subst this
        exact .inr (.inl ⟨m2, .inr (.inr e)⟩)
      | s k h1 hk e => omega
      | t k h1 hk e => omega
    · refine .inr (.inr ⟨by omega, fun i hi => ?_⟩)
      have ed := h.edge (by omega) i hi
      have at' : ∀ {j}, j < C.length → 0 ≤ det (gt C i) (gt C ((i + 1) % C.length)) (gt C j) := fun {j} hj => ed _ (h.sub _ (gt_mem hj))
      cases hf with
      | v j hj e => rw [e]; exact at' hj
      | s0 j h1 hj e => exact seg_lin (okw (h.okC hok (by omega))) (okw (h.okC hok hj)) (okw op) e (at' (by omega)) (at' hj)
      | s k h1 hk e => exact seg_lin (okw (h.okC hok (by omega))) (okw (h.okC hok hk)) (okw op) e (at' (by omega)) (at' hk)
      | t k h1 hk e => exact tri_lin e (at' (by omega)) (at' (by omega)) (at' hk)
theorem mem_reg (h : IsHull C L) (hok : ∀ q ∈ L, Ok q) (hp : p ∈ L) : Reg C p := by
  have hne := h.ne
  by_cases m1 : C.length = 1
  · exact .inl ⟨m1, h.one m1 p hp⟩
  · by_cases m2 : C.length = 2
    · rcases two_seg hok h m2 hp with e | e | ⟨e1, e2, e3⟩
      · exact .inr (.inl ⟨m2, .inl e⟩)
      · exact .inr (.inl ⟨m2, .inr (.inl e)⟩)
      · exact .inr (.inl ⟨m2, .inr (.inr ⟨e1, .inl ⟨e2, e3⟩⟩)⟩)
    · exact .inr (.inr ⟨by omega, fun i hi => h.edge (by omega) i hi p hp⟩)
theorem tri_least {a b c p z : Pt} (oz : Ok z) (op : Ok p) (oa : Ok a) (ob : Ok b) (oc : Ok c) (h : inTri a b c p) (ha : a = z ∨ plt z a) (hb : b = z ∨ plt z b) (hc : c = z ∨ plt z c) : plt z p := by
  have nn : ∀ {q : Pt}, (q = z ∨ plt z q) → 0 ≤ lx z q := fun {q} hq => by
    rcases hq with rfl | hq
    · unfold lx; omega
    · unfold plt at hq; omega
  have hx : ∀ q : Pt, det dX z q = lx z q := fun q => by rw [← det_dX]; exact (det_cyc dX z q).symm
  have l0 : 0 ≤ lx z p := by
    rw [← hx p]
    exact tri_lin h (by rw [hx]; exact nn ha) (by rw [hx]; exact nn hb) (by rw [hx]; exact nn hc)
  rcases Int.lt_or_eq_of_le l0 with g | g
  · exact .inl g
  · -- all of a, b, c at one place along x
    exfalso
    have e := cram dX z a b c p
    rw [hx, hx, hx, hx, ← g, Int.zero_mul] at e
    have e2 : 0 = lx z a * (det p b c * det a b c) + lx z b * (det a p c * det a b c) + lx z c * (det a b p * det a b c) := by
      have := congrArg (· * det a b c) e
      simp only [Int.zero_mul] at this
      grind
    have k1 := Int.mul_nonneg (nn ha) (Int.le_of_lt h.1)
    have k2 := Int.mul_nonneg (nn hb) (Int.le_of_lt h.2.1)
    have k3 := Int.mul_nonneg (nn hc) (Int.le_of_lt h.2.2)
    have z1 : lx z a = 0 := mul0 (b := det p b c * det a b c) (by omega) (by have := h.1; omega)
    have z2 : lx z b = 0 := mul0 (b := det a p c * det a b c) (by omega) (by have := h.2.1; omega)
    have z3 : lx z c = 0 := mul0 (b := det a b p * det a b c) (by omega) (by have := h.2.2; omega)
    have hD := h.ne
    refine hD (mul0 (b := z.w * z.w) ?_ (by have := Int.mul_pos (okw oz) (okw oz); omega))
    have e3 : det a b c * (z.w * z.w) = lx z a * (b.y * c.w - c.y * b.w) * z.w - a.y * (lx z b * c.w - lx z c * b.w) * z.w + a.w * (lx z b * c.y - lx z c * b.y) * z.w := by
      unfold det lx
      grind
    rw [e3, z1, z2, z3]
    grind
/-- a place of the region may join the points -/
theorem reg_join (hok : ∀ q ∈ L, Ok q) (op : Ok p) (h : IsHull C L) (hr : Reg C p) {L' : List Pt} (hL : ∀ q, q ∈ L' ↔ q ∈ L ∨ q = p) : IsHull C L' := by
  have hf := reg_fan hok op h hr
  have hne := h.ne
  have o0 := h.okC hok hne
  have lst : ∀ {i}, i < C.length → gt C i = gt C 0 ∨ plt (gt C 0) (gt C i) := fun {i} hi => h.least _ (h.sub _ (gt_mem hi))
  refine ⟨hne, fun c hc => (hL c).mpr (.inl (h.sub c hc)), fun h2 i hi q hq => ?_, h.conv, h.nd, fun q hq => ?_, fun h2 q hq => ?_, fun h1 q hq => ?_⟩
  · rcases (hL q).mp hq with hq | rfl
    · exact h.edge h2 i hi q hq
    · rcases hr with ⟨m1, _⟩ | ⟨m2, e⟩ | ⟨_, he⟩
      · omega
      · have : i = 0 ∨ i = 1 := by omega
        rw [m2]
        rcases this with rfl | rfl
        · show 0 ≤ det (gt C 0) (gt C 1) q
          rcases e with e | e | e
          · rw [e, det_aba]; omega
          · rw [e, det_abb]; omega
          · rw [e.1]; omega
        · show 0 ≤ det (gt C 1) (gt C 0) q
          rw [det_sw]
          rcases e with e | e | e
          · rw [e, det_aba]; omega
          · rw [e, det_abb]; omega
          · rw [e.1]; omega
      · exact he i hi
  · rcases (hL q).mp hq with hq | rfl
    · exact h.least q hq
    · have seg : ∀ {i j}, i < C.length → j < C.length → inSeg (gt C i) (gt C j) q → plt (gt C 0) q := fun {i j} hi hj e => by
        have oi := h.okC hok hi
        have oj := h.okC hok hj
        rcases e.2 with ⟨e1, _⟩ | ⟨e1, _⟩
        · rcases lst hi with g | g
          · rw [← g]; exact e1
          · exact plt_trans (okw o0) (okw oi) (okw op) g e1
        · rcases lst hj with g | g
          · rw [← g]; exact e1
          · exact plt_trans (okw o0) (okw oj) (okw op) g e1
      cases hf with
      | v i hi e => rw [e]; exact lst hi
      | s0 j h1 hj e => exact .inr (seg hne hj e)
      | s k h1 hk e => exact .inr (seg (by omega) hk e)
      | t k h1 hk e => exact .inr (tri_least o0 op o0 (h.okC hok (show k < C.length by omega)) (h.okC hok hk) e (.inl rfl) (lst (by omega)) (lst hk))
  · rcases (hL q).mp hq with hq | rfl
    · exact h.two h2 q hq
    · rcases hr with ⟨m1, _⟩ | ⟨m2, e⟩ | ⟨_, he⟩
      · omega
      · have p01 : plt (gt C 0) (gt C 1) := by
          rcases lst (i := 1) (by omega) with g | g
          · exact absurd g.symm (h.nd 0 1 (by omega) (by omega))
          · exact g
        rcases e with e | e | e
        · rw [e]; exact .inr p01
        · exact .inl e
        · rcases e.2 with ⟨_, e2⟩ | ⟨e1, e2⟩
          · exact .inr e2
          · exact absurd (plt_trans (okw (h.okC hok (show 1 < C.length by omega))) (okw op) (okw o0) e1 e2) (plt_asym p01)
      · omega
  · rcases (hL q).mp hq with hq | rfl
    · exact h.one h1 q hq
    · rcases hr with ⟨_, e⟩ | ⟨m2, _⟩ | ⟨m3, _⟩
      · exact e
      · omega
      · omega
end
end Hk
/-! ## G7 -/
/-! the monotone chain makes the hull -/
namespace Hk
def vB : Pt := ⟨-1, 3 * LG * LG, 0⟩
def vN : Pt := ⟨1, -(3 * LG * LG), 0⟩
theorem mul_bd {y w : Int} (h1 : -LG ≤ y ∧ y ≤ LG) (h2 : 1 ≤ w ∧ w ≤ LG) : -(LG * LG) ≤ y * w ∧ y * w ≤ LG * LG := by
  have a1 := Int.mul_le_mul_of_nonneg_right h1.2 (show 0 ≤ w by omega)
  have a2 := Int.mul_le_mul_of_nonneg_right h1.1 (show 0 ≤ w by omega)
  have a3 := Int.mul_le_mul_of_nonneg_left h2.2 (show (0 : Int) ≤ LG by decide)
  rw [Int.neg_mul] at a2
  omega
theorem vB_pos {a b : Pt} (oa : Ok a) (ob : Ok b) (h : plt a b) : 0 < det vB a b := by
  have e : det vB a b = ly a b + (3 * LG * LG) * lx a b := by unfold det vB lx ly; grind
  rw [e]
  have k1 := mul_bd ob.y oa.w
  have k2 := mul_bd oa.y ob.w
  have hG : (0 : Int) < LG * LG := by decide
  have ey : ly a b = b.y * a.w - a.y * b.w := rfl
  rcases h with h | ⟨h, h'⟩
  · have := Int.mul_le_mul_of_nonneg_left (show 1 ≤ lx a b by omega) (show 0 ≤ 3 * LG * LG by decide)
    have e3 : 3 * LG * LG = 3 * (LG * LG) := Int.mul_assoc ..
    omega
  · rw [h, Int.mul_zero]
    omega
theorem vN_det (a b : Pt) : det vN a b = - det vB a b := by unfold det vN vB; grind
theorem vN_pos {a b : Pt} (oa : Ok a) (ob : Ok b) (h : plt b a) : 0 < det vN a b := by
  have := vB_pos ob oa h
  have e := det_sw2 vB a b
  rw [vN_det]
  omega
/-- one chain: from the first to the last -/
theorem chain_ends {v : Pt} {l : List Pt} (h : l.Pairwise (fun a b => 0 < det v a b)) (hl : 1 ≤ l.length) :
    Asc v (fun q => q ∈ l) (chain l).reverse ∧ 1 ≤ (chain l).length ∧ gt (chain l).reverse 0 = gt l 0 ∧ gt (chain l).reverse ((chain l).length - 1) = gt l (l.length - 1) := by
  cases l with
  | nil => simp at hl
  | cons a r =>
    have hs := chain_ok h
    have hne : chain (a :: r) ≠ [] := fun z => by rw [z] at hs; exact hs
    have hpos : 1 ≤ (chain (a :: r)).length := by
      rcases Nat.eq_zero_or_pos (chain (a :: r)).length with z | z
      · exact absurd (List.eq_nil_of_length_eq_zero z) hne
      · exact z
    refine ⟨hs.asc, hpos, ?_, ?_⟩
    · have h1 : (chain (a :: r)).getLast? = some a := by
        show (chainS [a] r).getLast? = some a
        rw [chainS_last r [a] (by simp)]
        rfl
      have h2 : (chain (a :: r)).reverse.head? = some a := by rw [List.head?_reverse, h1]
      show gt (chain (a :: r)).reverse 0 = a
      unfold gt
      rw [List.getD_eq_getElem?_getD, ← List.head?_eq_getElem?, h2]
      rfl
    · have h1 := chainS_head (a :: r) [] (by simp)
      have h2 : (chain (a :: r)).reverse.getLast? = (a :: r).getLast? := by rw [List.getLast?_reverse]; exact h1
      unfold gt
      rw [List.getLast?_eq_getElem?, List.getLast?_eq_getElem?, List.length_reverse] at h2
      rw [List.getD_eq_getElem?_getD, List.getD_eq_getElem?_getD, h2]
section
variable {L row : List Pt}
theorem gt_dropLast {l : List Pt} {i : Nat} (h : i + 1 < l.length) : gt l.dropLast i = gt l i := by
  unfold gt
  rw [List.getD_eq_getElem?_getD, List.getD_eq_getElem?_getD, List.getElem?_dropLast, if_pos (by omega)]
theorem andrew (hok : ∀ q ∈ L, Ok q) (hs : row.Pairwise plt) (hm : ∀ q, q ∈ row ↔ q ∈ L) (hl : 2 ≤ row.length) : IsHull ((chain row).reverse.dropLast ++ (chain row.reverse).reverse.dropLast) L := by
  have hokr : ∀ q ∈ row, Ok q := fun q hq => hok q ((hm q).mp hq)
  have p1 : row.Pairwise (fun a b => 0 < det vB a b) := hs.imp_of_mem fun ha hb h => vB_pos (hokr _ ha) (hokr _ hb) h
  have p2 : row.reverse.Pairwise (fun a b => 0 < det vN a b) := by
    rw [List.pairwise_reverse]
    exact hs.imp_of_mem fun ha hb h => vN_pos (hokr _ hb) (hokr _ ha) h
  obtain ⟨a1, n1, f1, g1⟩ := chain_ends p1 (by omega)
  obtain ⟨a2, n2, f2, g2⟩ := chain_ends p2 (by rw [List.length_reverse]; omega)
  have r0 : gt row.reverse 0 = gt row (row.length - 1) := by
    rw [gt_lt (by rw [List.length_reverse]; omega), gt_lt (by omega)]
    simp
  have r1 : gt row.reverse (row.reverse.length - 1) = gt row 0 := by
    rw [gt_lt (by rw [List.length_reverse]; omega), gt_lt (by omega)]
    simp
  rw [r0] at f2
  rw [r1] at g2
  generalize hlo : (chain row).reverse = lo at *
  generalize hhi : (chain row.reverse).reverse = hi at *
  have l1 : (chain row).length = lo.length := by rw [← hlo, List.length_reverse]
  have l2 : (chain row.reverse).length = hi.length := by rw [← hhi, List.length_reverse]
  rw [l1] at n1 g1
  rw [l2] at n2 g2
  have sord : ∀ i j, i < j → j < row.length → plt (gt row i) (gt row j) := fun i j hij hj => by
    rw [gt_lt (by omega), gt_lt hj]
    exact List.pairwise_iff_getElem.mp hs i j (by omega) hj hij
  have ends : plt (gt row 0) (gt row (row.length - 1)) := sord 0 _ (by omega) (by omega)
  have lo2 : 2 ≤ lo.length := by
    rcases Nat.lt_or_ge lo.length 2 with g | g
    · exfalso
      have : lo.length - 1 = 0 := by omega
      rw [this, f1] at g1
      rw [← g1] at ends
      exact plt_irr _ ends
    · exact g
  have hi2 : 2 ≤ hi.length := by
    rcases Nat.lt_or_ge hi.length 2 with g | g
    · exfalso
      have : hi.length - 1 = 0 := by omega
      rw [this, f2] at g2
      rw [g2] at ends
      exact plt_irr _ ends
    · exact g
  -- the closed walk
  let c : Nat → Pt := fun i => if i < lo.length then gt lo i else gt hi (i - (lo.length - 1))
  have cl : ∀ i, i < lo.length → c i = gt lo i := fun i h => if_pos h
  have ch : ∀ j, j < hi.length → c (lo.length - 1 + j) = gt hi j := fun j h => by
    by_cases hj : j = 0
    · subst hj
      rw [Nat.add_zero, cl _ (by omega), g1, f2]
    · show (if lo.length - 1 + j < lo.length then gt lo (lo.length - 1 + j) else gt hi (lo.length - 1 + j - (lo.length - 1))) = gt hi j
      rw [if_neg (by omega)]
      congr 1
      omega
  have hmS : ∀ q ∈ row.reverse, q ∈ row := fun q hq => List.mem_reverse.mp hq
  have P : Poly vB (fun q => q ∈ row) c (lo.length - 1) (lo.length - 1 + (hi.length - 1)) := by
    refine ⟨rfl, fun q hq => okw (hokr q hq), by omega, by omega, ?_, fun i him => ?_, fun i him q hq => ?_, fun i his => ?_, fun i his him => ?_, fun i his => ?_, fun i his him => ?_⟩
    · rw [ch _ (by omega), g2, cl 0 (by omega), f1]
    · by_cases h : i < lo.length
      · rw [cl i h]; exact a1.mem i h
      · have e : i = lo.length - 1 + (i - (lo.length - 1)) := by omega
        rw [e, ch _ (by omega)]
        exact hmS _ (a2.mem _ (by omega))
    · by_cases h : i + 1 < lo.length
      · rw [cl i (by omega), cl (i + 1) h]
        exact a1.edge i h q hq
      · have e : i = lo.length - 1 + (i - (lo.length - 1)) := by omega
        have e2 : i + 1 = lo.length - 1 + (i - (lo.length - 1) + 1) := by omega
        rw [e2, ch _ (by omega), e, ch _ (by omega), show lo.length - 1 + (i - (lo.length - 1)) - (lo.length - 1) = i - (lo.length - 1) by omega]
        exact a2.edge _ (by omega) q (List.mem_reverse.mpr hq)
    · rw [cl i (by omega), cl (i + 1) (by omega)]
      exact a1.up i (by omega)
    · have e : i = lo.length - 1 + (i - (lo.length - 1)) := by omega
      have e2 : i + 1 = lo.length - 1 + (i - (lo.length - 1) + 1) := by omega
      rw [e2, ch _ (by omega), e, ch _ (by omega), show lo.length - 1 + (i - (lo.length - 1)) - (lo.length - 1) = i - (lo.length - 1) by omega]
      have := a2.up (i - (lo.length - 1)) (by omega)
      rw [vN_det] at this
      have e3 := det_sw2 vB (gt hi (i - (lo.length - 1))) (gt hi (i - (lo.length - 1) + 1))
      omega
    · rw [cl i (by omega), cl (i + 1) (by omega), cl (i + 2) (by omega)]
      exact a1.trn i (by omega)
    · have e : i = lo.length - 1 + (i - (lo.length - 1)) := by omega
      have e2 : i + 1 = lo.length - 1 + (i - (lo.length - 1) + 1) := by omega
      have e3 : i + 2 = lo.length - 1 + (i - (lo.length - 1) + 2) := by omega
      rw [e3, ch _ (by omega), e2, ch _ (by omega), e, ch _ (by omega), show lo.length - 1 + (i - (lo.length - 1)) - (lo.length - 1) = i - (lo.length - 1) by omega]
      exact a2.trn _ (by omega)
  generalize hC : lo.dropLast ++ hi.dropLast = C
  have Cl : C.length = lo.length - 1 + (hi.length - 1) := by rw [← hC, List.length_append, List.length_dropLast, List.length_dropLast]
  have Cc : ∀ i, i < C.length → gt C i = c i := fun i hi' => by
    rw [← hC]
    by_cases h : i < lo.dropLast.length
    · rw [gt_app h, cl i (by rw [List.length_dropLast] at h; omega)]
      exact gt_dropLast (by rw [List.length_dropLast] at h; omega)
    · rw [gt_app2 (by omega)]
      rw [List.length_dropLast] at h ⊢
      have e : i = lo.length - 1 + (i - (lo.length - 1)) := by omega
      rw [show c i = c (lo.length - 1 + (i - (lo.length - 1))) from congrArg c e, ch _ (by omega)]
      exact gt_dropLast (by omega)
  have c0 : c 0 = gt row 0 := by rw [cl 0 (by omega), f1]
  have lst : ∀ q ∈ L, q = gt row 0 ∨ plt (gt row 0) q := fun q hq => by
    obtain ⟨i, hi', rfl⟩ := gt_of_mem ((hm q).mpr hq)
    rcases Nat.eq_zero_or_pos i with z | z
    · left; rw [z]
    · right; exact sord 0 i z hi'
  refine ⟨by omega, fun q hq => ?_, fun h2 i hi' q hq => ?_, fun i j k hij hjk hk => ?_, fun i j hij hj => ?_, fun q hq => ?_, fun h2 q hq => ?_, fun h1 => by omega⟩
  · obtain ⟨i, hi', rfl⟩ := gt_of_mem hq
    rw [Cc i hi']
    exact (hm _).mp (P.mem i (by omega))
  · have e := P.edge i (by omega) q ((hm q).mpr hq)
    rw [Cc i hi']
    by_cases h : i + 1 < C.length
    · rw [Nat.mod_eq_of_lt h, Cc _ h]
      exact e
    · have e1 : i + 1 = C.length := by omega
      rw [e1, Nat.mod_self, Cc 0 (by omega), ← P.close, ← Cl, ← e1]
      exact e
  · rw [Cc i (by omega), Cc j (by omega), Cc k hk]
    exact P.conv hij hjk (by omega)
  · rw [Cc i (by omega), Cc j hj]
    intro z
    by_cases h : i = 0
    · have := P.least (i := j) (by omega) (by omega)
      rw [← z, h, det_abb] at this
      omega
    · have := P.conv (i := 0) (j := i) (k := j) (by omega) hij (by omega)
      rw [z, det_abb] at this
      omega
  · rw [Cc 0 (by omega), c0]
    exact lst q hq
  · have s1 : lo.length - 1 = 1 := by omega
    rw [Cc 1 (by omega), cl 1 (by omega)]
    rw [s1] at g1
    rw [g1]
    obtain ⟨i, hi', rfl⟩ := gt_of_mem ((hm q).mpr hq)
    by_cases z : i = row.length - 1
    · left; rw [z]
    · right; exact sord i _ (by omega) (by omega)
theorem andrew1 {a : Pt} (hm : ∀ q, q ∈ L ↔ q = a) : IsHull [a] L := by
  refine ⟨by simp, fun c hc => (hm c).mpr (by simpa using hc), fun h => by simp at h, fun i j k h1 h2 h3 => by simp at h3; omega, fun i j h1 h2 => by simp at h2; omega, fun q hq => .inl ((hm q).mp hq), fun h => by simp at h, fun _ q hq => (hm q).mp hq⟩
end
end Hk
/-! ## F12 -/
/-! the hull that the program makes; its fans -/
namespace Hk
theorem rk_perm (L : List Pt) : (rkOf L).Perm (List.range L.length) := List.mergeSort_perm _ _
theorem rk_sorted {L : List Pt} (h : Pts L) : ((rkOf L).map (gt L)).Pairwise plt := by
  rw [List.pairwise_map]
  have s := List.pairwise_mergeSort (le := kyLe (ksOf L)) (fun a b c h1 h2 => by
    simp only [kyLe, decide_eq_true_iff] at *
    omega) (fun a b => by
    simp only [kyLe, Bool.or_eq_true, decide_eq_true_iff]
    omega) (List.range L.length)
  have nd : (rkOf L).Nodup := (rk_perm L).nodup_iff.mpr List.nodup_range
  have wp : ∀ p ∈ L, 0 < p.w := fun p hp => okw (h.ok p hp)
  have both : (rkOf L).Pairwise (fun a b => kyLe (ksOf L) a b = true ∧ a ≠ b) := List.pairwise_and_iff.mpr ⟨s, nd⟩
  refine both.imp_of_mem fun {i j} hi hj ⟨h1, h2⟩ => ?_
  have li := rk_mem hi
  have lj := rk_mem hj
  have e : ∀ {k}, k < L.length → ksOf L k = keyP (cw L) (gt L k) := fun {k} hk => by
    unfold ksOf
    rw [gt_get hk]
  simp only [kyLe, decide_eq_true_iff] at h1
  rw [e li, e lj] at h1
  have mi := gt_mem li
  have mj := gt_mem lj
  refine key_lt (cw_pos wp) (wp _ mi) (wp _ mj) (cw_dvd wp mi) (cw_dvd wp mj) (h.ok _ mi) (h.ok _ mj) (fun z => h2 ?_) h1
  have hh : L[i]? = L[j]? := by rw [gt_get li, gt_get lj, z]
  exact (List.getElem?_inj li h.nd).mp hh
theorem chainI_gt (L : List Pt) (js : List Nat) : (chainI (gt L) [] js).map (gt L) = chain (js.map (gt L)) := chainI_map (gt L) js []
theorem hullP_hull {L : List Pt} (h : Pts L) : IsHull (hullP L) L := by
  have l1 := h.l1
  unfold hullP hullI
  by_cases hl : 1 < L.length
  · rw [if_pos hl, List.map_append, List.map_dropLast, List.map_dropLast]
    unfold halfI
    show IsHull (((chainI (gt L) [] (rkOf L)).reverse.map (gt L)).dropLast ++ ((chainI (gt L) [] (rkOf L).reverse).reverse.map (gt L)).dropLast) L
    rw [List.map_reverse, List.map_reverse, chainI_gt, chainI_gt, List.map_reverse]
    refine andrew h.ok (rk_sorted h) (fun q => ?_) (by rw [List.length_map, rk_len]; omega)
    constructor
    · intro hq
      obtain ⟨j, hj, rfl⟩ := List.mem_map.mp hq
      exact gt_mem (rk_mem hj)
    · intro hq
      obtain ⟨i, hi, rfl⟩ := gt_of_mem hq
      exact List.mem_map_of_mem ((rk_perm L).mem_iff.mpr (List.mem_range.mpr hi))
  · rw [if_neg hl]
    show IsHull [gt L 0] L
    refine andrew1 fun q => ?_
    constructor
    · intro hq
      obtain ⟨i, hi, rfl⟩ := gt_of_mem hq
      rw [show i = 0 by omega]
    · rintro rfl
      exact gt_mem l1
/-! fans by places -/
def jn (js : List Nat) (k : Nat) : Nat := js.getD k 0
theorem jn_get {js : List Nat} {k : Nat} (h : k < js.length) : js[k]? = some (jn js k) := by
  unfold jn
  rw [List.getD_eq_getElem?_getD, List.getElem?_eq_getElem h]; rfl
theorem gt_jn {L : List Pt} {js : List Nat} {k : Nat} (h : k < js.length) : gt (js.map (gt L)) k = gt L (jn js k) := by
  have e : (js.map (gt L))[k]? = some (gt L (jn js k)) := by rw [List.getElem?_map, jn_get h]; rfl
  show (js.map (gt L)).getD k _ = _
  rw [List.getD_eq_getElem?_getD, e]; rfl
def fansI (js : List Nat) : List (List Nat) :=
  js.map (fun j => [j]) ++ (js.drop 1).map (fun j => [jn js 0, j]) ++ (List.range (js.length - 2)).map (fun k => [jn js (k + 1), jn js (k + 2)]) ++ (List.range (js.length - 2)).map (fun k => [jn js 0, jn js (k + 1), jn js (k + 2)])
theorem mem_fans {js f : List Nat} : f ∈ fansI js ↔ (∃ i, i < js.length ∧ f = [jn js i]) ∨ (∃ j, 1 ≤ j ∧ j < js.length ∧ f = [jn js 0, jn js j]) ∨ (∃ k, 1 ≤ k ∧ k + 1 < js.length ∧ f = [jn js k, jn js (k + 1)]) ∨ (∃ k, 1 ≤ k ∧ k + 1 < js.length ∧ f = [jn js 0, jn js k, jn js (k + 1)]) := by
  unfold fansI
  simp only [List.mem_append, List.mem_map, List.mem_range]
  constructor
  · rintro (((⟨j, hj, rfl⟩ | ⟨j, hj, rfl⟩) | ⟨k, hk, rfl⟩) | ⟨k, hk, rfl⟩)
    · obtain ⟨i, hi, e⟩ := List.mem_iff_getElem.mp hj
      have e2 := jn_get hi
      rw [List.getElem?_eq_getElem hi, e] at e2
      exact .inl ⟨i, hi, by rw [← Option.some.inj e2]⟩
    · obtain ⟨i, hi, e⟩ := List.mem_iff_getElem.mp hj
      rw [List.length_drop] at hi
      rw [List.getElem_drop] at e
      have e2 := jn_get (show 1 + i < js.length by omega)
      rw [List.getElem?_eq_getElem (by omega), e] at e2
      exact .inr (.inl ⟨1 + i, by omega, by omega, by rw [← Option.some.inj e2]⟩)
    · exact .inr (.inr (.inl ⟨k + 1, by omega, by omega, rfl⟩))
    · exact .inr (.inr (.inr ⟨k + 1, by omega, by omega, rfl⟩))
  · rintro (⟨i, hi, rfl⟩ | ⟨j, h1, hj, rfl⟩ | ⟨k, h1, hk, rfl⟩ | ⟨k, h1, hk, rfl⟩)
    · exact .inl (.inl (.inl ⟨jn js i, List.mem_of_getElem? (jn_get hi), rfl⟩))
    · refine .inl (.inl (.inr ⟨jn js j, ?_, rfl⟩))
      refine List.mem_of_getElem? (i := j - 1) ?_
      rw [List.getElem?_drop, show 1 + (j - 1) = j by omega]
      exact jn_get hj
    · exact .inl (.inr ⟨k - 1, by omega, by rw [show k - 1 + 1 = k by omega, show k - 1 + 2 = k + 1 by omega]⟩)
    · exact .inr ⟨k - 1, by omega, by rw [show k - 1 + 1 = k by omega, show k - 1 + 2 = k + 1 by omega]⟩
theorem fans_in {L : List Pt} {js : List Nat} {p : Pt} : FanC (js.map (gt L)) p ↔ ∃ f ∈ fansI js, In L p f := by
  have hl : (js.map (gt L)).length = js.length := List.length_map ..
  constructor
  · intro h
    cases h with
    | v i hi e =>
      rw [hl] at hi
      rw [gt_jn hi] at e
      exact ⟨_, mem_fans.mpr (.inl ⟨i, hi, rfl⟩), e.symm⟩
    | s0 j h1 hj e =>
      rw [hl] at hj
      rw [gt_jn hj, gt_jn (by omega)] at e
      exact ⟨_, mem_fans.mpr (.inr (.inl ⟨j, h1, hj, rfl⟩)), e⟩
    | s k h1 hk e =>
      rw [hl] at hk
      rw [gt_jn hk, gt_jn (by omega)] at e
      exact ⟨_, mem_fans.mpr (.inr (.inr (.inl ⟨k, h1, hk, rfl⟩))), e⟩
    | t k h1 hk e =>
      rw [hl] at hk
      rw [gt_jn hk, gt_jn (show 0 < js.length by omega), gt_jn (show k < js.length by omega)] at e
      exact ⟨_, mem_fans.mpr (.inr (.inr (.inr ⟨k, h1, hk, rfl⟩))), e⟩
  · rintro ⟨f, hf, hin⟩
    rcases mem_fans.mp hf with ⟨i, hi, rfl⟩ | ⟨j, h1, hj, rfl⟩ | ⟨k, h1, hk, rfl⟩ | ⟨k, h1, hk, rfl⟩
    · exact .v i (by omega) (by rw [gt_jn hi]; exact Eq.symm hin)
    · exact .s0 j h1 (by omega) (by rw [gt_jn hj, gt_jn (by omega)]; exact hin)
    · exact .s k h1 (by omega) (by rw [gt_jn hk, gt_jn (by omega)]; exact hin)
    · exact .t k h1 (by omega) (by rw [gt_jn hk, gt_jn (show 0 < js.length by omega), gt_jn (show k < js.length by omega)]; exact hin)
theorem inTri_sw1 {a b c p : Pt} : inTri b a c p ↔ inTri a b c p := by
  unfold inTri
  rw [det_sw a b c, det_sw a p c, det_sw p b c, det_sw a b p]
  simp only [Int.neg_mul_neg]
  constructor <;> rintro ⟨h1, h2, h3⟩ <;> exact ⟨h2, h1, h3⟩
theorem inTri_sw2 {a b c p : Pt} : inTri a c b p ↔ inTri a b c p := by
  unfold inTri
  rw [det_sw2 a b c, det_sw2 p b c, det_sw2 a b p, det_sw2 a p c]
  simp only [Int.neg_mul_neg]
  constructor <;> rintro ⟨h1, h2, h3⟩ <;> exact ⟨h1, h3, h2⟩
theorem In_perm0 {L : List Pt} {p : Pt} {l1 l2 : List Nat} (h : l1.Perm l2) : ∀ pre : List Nat, pre.length + l1.length ≤ 3 → (In L p (pre ++ l1) ↔ In L p (pre ++ l2)) := by
  induction h with
  | nil => intro pre _; exact Iff.rfl
  | cons x _ ih =>
    intro pre hp
    have := ih (pre ++ [x]) (by simp at hp ⊢; omega)
    simpa using this
  | swap x y l =>
    intro pre hp
    simp only [List.length_cons] at hp
    match pre, l, hp with
    | [], [], _ => exact ⟨fun h => inSeg.sw h, fun h => inSeg.sw h⟩
    | [], [z], _ => exact inTri_sw1
    | [w], [], _ => exact inTri_sw2
    | [], _ :: _ :: _, hp => simp at hp <;> omega
    | [_], _ :: _, hp => simp at hp <;> omega
    | _ :: _ :: _, _, hp => simp at hp <;> omega
  | trans h1 h2 ih1 ih2 =>
    intro pre hp
    exact (ih1 pre hp).trans (ih2 pre (by rw [← h1.length_eq]; exact hp))
theorem In_perm {L : List Pt} {p : Pt} {l1 l2 : List Nat} (h : l1.Perm l2) (hl : l1.length ≤ 3) : In L p l1 ↔ In L p l2 := In_perm0 h [] (by simpa using hl)
theorem fan_ok {L : List Pt} {js : List Nat} (hull : IsHull (js.map (gt L)) L) (hjs : ∀ j ∈ js, j < L.length) {f : List Nat} (hf : f ∈ fansI js) : 1 ≤ f.length ∧ f.length ≤ 3 ∧ (∀ j ∈ f, j < L.length) ∧ f.Nodup := by
  have hl : (js.map (gt L)).length = js.length := List.length_map ..
  have lt : ∀ {k}, k < js.length → jn js k < L.length := fun {k} hk => hjs _ (List.mem_of_getElem? (jn_get hk))
  have ne : ∀ {i j}, i < j → j < js.length → jn js i ≠ jn js j := fun {i j} hij hj e => by
    have := hull.nd i j hij (by omega)
    rw [gt_jn (by omega), gt_jn hj, e] at this
    exact this rfl
  rcases mem_fans.mp hf with ⟨i, hi, rfl⟩ | ⟨j, h1, hj, rfl⟩ | ⟨k, h1, hk, rfl⟩ | ⟨k, h1, hk, rfl⟩
  · exact ⟨by simp, by simp, fun j hj => by rcases List.mem_singleton.mp hj with rfl; exact lt hi, by simp⟩
  · refine ⟨by simp, by simp, fun x hx => ?_, ?_⟩
    · simp only [List.mem_cons, List.not_mem_nil, or_false] at hx
      rcases hx with rfl | rfl
      · exact lt (by omega)
      · exact lt hj
    · have := ne (i := 0) (j := j) (by omega) hj
      simp [this]
  · refine ⟨by simp, by simp, fun x hx => ?_, ?_⟩
    · simp only [List.mem_cons, List.not_mem_nil, or_false] at hx
      rcases hx with rfl | rfl
      · exact lt (by omega)
      · exact lt hk
    · have := ne (i := k) (j := k + 1) (by omega) hk
      simp [this]
  · refine ⟨by simp, by simp, fun x hx => ?_, ?_⟩
    · simp only [List.mem_cons, List.not_mem_nil, or_false] at hx
      rcases hx with rfl | rfl | rfl
      · exact lt (by omega)
      · exact lt (by omega)
      · exact lt hk
    · have a1 := ne (i := 0) (j := k) (by omega) (by omega)
      have a2 := ne (i := 0) (j := k + 1) (by omega) hk
      have a3 := ne (i := k) (j := k + 1) (by omega) hk
      simp [a1, a2, a3]
/-- ints sorted are places sorted -/
theorem sorted_nat {f : List Nat} {ns : List Int} (hp : ns.Perm (f.map fun (j : Nat) => (j : Int))) (hs : ns.Pairwise (· ≤ ·)) (hn : f.Nodup) : ∃ f' : List Nat, f'.Perm f ∧ ns = f'.map (fun (j : Nat) => (j : Int)) ∧ f'.Pairwise (· < ·) := by
  have e0 : (f.map fun (j : Nat) => (j : Int)).map Int.toNat = f := by
    rw [List.map_map]
    exact (List.map_congr_left (fun a _ => by simp)).trans (List.map_id f)
  have hp2 : (ns.map Int.toNat).Perm f := by
    have := hp.map Int.toNat
    rw [e0] at this
    exact this
  have e : ns = (ns.map Int.toNat).map (fun (j : Nat) => (j : Int)) := by
    rw [List.map_map]
    refine ((List.map_congr_left fun a ha => ?_).trans (List.map_id ns)).symm
    obtain ⟨j, _, rfl⟩ := List.mem_map.mp (hp.mem_iff.mp ha)
    simp
  refine ⟨ns.map Int.toNat, hp2, e, ?_⟩
  have nd : (ns.map Int.toNat).Nodup := hp2.nodup_iff.mpr hn
  have s2 : (ns.map Int.toNat).Pairwise (· ≤ ·) := by
    rw [List.pairwise_map]
    exact hs.imp fun h => by omega
  have both := List.pairwise_and_iff.mpr ⟨s2, nd⟩
  exact both.imp fun ⟨h1, h2⟩ => by omega
end Hk
/-! ## F13 -/
namespace Hk
open PySem PySem.Spec PyProof.Rows L2
local macro_rules | `(tactic| walk_at "bd") => `(tactic| first
  | assumption
  | exact (show B 64 _ from by unfold B; decide)
  | (refine' B.mul ?b1 ?b2; (case b1 => walk_at "bd"); (case b2 => walk_at "bd"))
  | (refine' B.sub ?b1 ?b2; (case b1 => walk_at "bd"); (case b2 => walk_at "bd"))
  | (refine' B.add ?b1 ?b2; (case b1 => walk_at "bd"); (case b2 => walk_at "bd"))
  | (refine' B.neg ?b1; (case b1 => walk_at "bd")))
local macro_rules | `(tactic| walk_at "da") => `(tactic| first
  | assumption
  | exact Da.int _
  | exact Da.non
  | exact Da.bl _
  | exact Da.str _
  | ((with_reducible refine' P3.mono (by assumption) ?d1); (case d1 => walk_at "da"))
  | ((with_reducible refine' Ra.mono (by assumption) ?d1); (case d1 => walk_at "da"))
  | ((with_reducible refine' TuR.mono (by assumption) ?d1); (case d1 => walk_at "da"))
  | ((with_reducible refine' LiR.mono (by assumption) ?d1); (case d1 => walk_at "da"))
  | ((with_reducible refine' Da.mono (by assumption) ?d1); (case d1 => walk_at "da")))
local macro_rules | `(tactic| walk_at "xt") => `(tactic| first
  | assumption
  | (refine' Xt.trans ?x1 (by assumption); (case x1 => walk_at "xt")))
local macro_rules | `(tactic| walk_at "w") => `(tactic| first
  | assumption
  | exact Xt.w2 (by assumption)
  | exact Xt.w1 (by assumption))
local macro_rules | `(tactic| walk_at "side") => `(tactic| first
  | assumption
  | (refine' B.cmul ?b1 ?b2 ?b3; (case b1 => walk_at "bd"); (case b2 => walk_at "bd"); (case b3 => first | decide | omega))
  | (refine' B.cdiv ?b1 ?b2 ?b3; (case b1 => assumption); (case b2 => walk_at "bd"); (case b3 => first | decide | omega)))
local macro_rules | `(tactic| walk_at "ea") => `(tactic| first
  | with_reducible exact ea_nil
  | ((with_reducible refine' ea_cons ?p1 ?p2); (case p1 => walk_at "ev"); (case p2 => walk_at "ea")))
local macro_rules | `(tactic| walk_at "et") => `(tactic| first
  | ((with_reducible refine' et_and ?p1 ?p2); (case p1 => walk_at "et"); (case p2 => intro _; walk_at "et"))
  | ((with_reducible refine' et_or ?p1 ?p2); (case p1 => walk_at "et"); (case p2 => intro _; walk_at "et"))
  | ((with_reducible refine' et_not ?p1); (case p1 => walk_at "et"))
  | ((with_reducible refine' et_test ?p1); (case p1 => walk_at "ev"))
  | ((with_reducible refine' et_B ?p1); (case p1 => walk_at "ev")))
local macro_rules | `(tactic| walk_at "ev") => `(tactic| first
  | with_reducible exact ev_c
  | ((with_reducible refine' ev_var ?v1); (case v1 => exact rfl))
  | ((with_reducible refine' ev_px ?p1 ?p2 ?p3); (case p1 => walk_at "ev"); (case p2 => walk_at "da"); (case p3 => with_reducible exact ev_c))
  | ((with_reducible refine' ev_py ?p1 ?p2 ?p3); (case p1 => walk_at "ev"); (case p2 => walk_at "da"); (case p3 => with_reducible exact ev_c))
  | ((with_reducible refine' ev_pw ?p1 ?p2 ?p3); (case p1 => walk_at "ev"); (case p2 => walk_at "da"); (case p3 => with_reducible exact ev_c))
  | ((with_reducible refine' ev_ixT ?p1 ?p2 ?p3 ?p4); (case p1 => walk_at "ev"); (case p2 => walk_at "da"); (case p3 => walk_at "ev"); (case p4 => first | exact rfl | assumption))
  | ((with_reducible refine' ev_ixL ?p1 ?p2 ?p3 ?p4); (case p1 => walk_at "ev"); (case p2 => walk_at "da"); (case p3 => walk_at "ev"); (case p4 => first | exact rfl | assumption))
  | ((with_reducible refine' ev_i0 ?p1 ?p2); (case p1 => walk_at "ev"); (case p2 => walk_at "ev"))
  | ((with_reducible refine' ev_iC ?p1 ?p2 ?p3); (case p1 => walk_at "ev"); (case p2 => walk_at "ev"); (case p3 => walk_at "side"))
  | ((with_reducible refine' ev_neg ?p1); (case p1 => walk_at "ev"))
  | ((with_reducible refine' ev_eq ?p1 ?p2 ?p3); (case p1 => walk_at "ev"); (case p2 => walk_at "ev"); (case p3 => exact rfl))
  | ((with_reducible refine' ev_ne ?p1 ?p2 ?p3); (case p1 => walk_at "ev"); (case p2 => walk_at "ev"); (case p3 => exact rfl))
  | ((with_reducible refine' ev_andV ?p1 ?p2); (case p1 => walk_at "ev"); (case p2 => intro _; walk_at "ev"))
  | ((with_reducible refine' ev_orV ?p1 ?p2); (case p1 => walk_at "ev"); (case p2 => intro _; walk_at "ev"))
  | ((with_reducible refine' ev_notV ?p1); (case p1 => walk_at "ev"))
  | ((with_reducible refine' ev_subB ?p1 ?p2); (case p1 => walk_at "ev"); (case p2 => walk_at "ev"))
  | ((with_reducible refine' ev_chI ?p1 ?p2 ?p3); (case p1 => walk_at "ev"); (case p2 => walk_at "ev"); (case p3 => walk_at "ev"))
  | ((with_reducible refine' ev_isInt ?p1 ?p2); (case p1 => walk_at "ev"); (case p2 => walk_at "da"))
  | ((with_reducible refine' ev_isBool ?p1 ?p2); (case p1 => walk_at "ev"); (case p2 => walk_at "da"))
  | ((with_reducible refine' ev_isStr ?p1 ?p2); (case p1 => walk_at "ev"); (case p2 => walk_at "da"))
  | ((with_reducible refine' ev_isTup ?p1 ?p2); (case p1 => walk_at "ev"); (case p2 => walk_at "da"))
  | ((with_reducible refine' ev_isLst ?p1 ?p2); (case p1 => walk_at "ev"); (case p2 => walk_at "da"))
  | ((with_reducible refine' ev_isTL ?p1 ?p2); (case p1 => walk_at "ev"); (case p2 => walk_at "da"))
  | ((with_reducible refine' ev_lenT ?p1 ?p2); (case p1 => walk_at "ev"); (case p2 => walk_at "da"))
  | ((with_reducible refine' ev_lenL ?p1 ?p2); (case p1 => walk_at "ev"); (case p2 => walk_at "da"))
  | ((with_reducible refine' ev_abs ?p1); (case p1 => walk_at "ev"))
  | ((with_reducible refine' ev_min2 ?p1 ?p2); (case p1 => walk_at "ev"); (case p2 => walk_at "ev"))
  | ((with_reducible refine' ev_int1 ?p1); (case p1 => walk_at "ev"))
  | ((with_reducible refine' ev_isN ?p1); (case p1 => walk_at "ev"))
  | ((with_reducible refine' ev_notN ?p1); (case p1 => walk_at "ev"))
  | ((with_reducible refine' ev_sign ?p1); (case p1 => walk_at "ev"))
  | ((with_reducible refine' ev_gcd ?p1 ?p2); (case p1 => walk_at "ev"); (case p2 => walk_at "ev"))
  | ((with_reducible refine' ev_is_in ?p1 ?p2 ?p3 ?p4); (case p1 => walk_at "ev"); (case p2 => walk_at "da"); (case p3 => walk_at "ev"); (case p4 => walk_at "ev"))
  | ((with_reducible refine' ev_doubled ?p1 ?p2 ?p3 ?p4 ?p5 ?p6 ?p7 ?p8 ?p9); (case p1 => walk_at "ev"); (case p2 => walk_at "ev"); (case p3 => walk_at "ev"); (case p4 => walk_at "da"); (case p5 => walk_at "da"); (case p6 => walk_at "da"); (case p7 => assumption); (case p8 => assumption); (case p9 => assumption))
  | ((with_reducible refine' ev_order_of ?p1 ?p2 ?p3 ?p4 ?p5 ?p6); (case p1 => walk_at "ev"); (case p2 => walk_at "ev"); (case p3 => walk_at "da"); (case p4 => walk_at "da"); (case p5 => assumption); (case p6 => assumption))
  | ((with_reducible refine' ev_turn_of ?p1 ?p2 ?p3 ?p4 ?p5 ?p6 ?p7 ?p8 ?p9); (case p1 => walk_at "ev"); (case p2 => walk_at "ev"); (case p3 => walk_at "ev"); (case p4 => walk_at "da"); (case p5 => walk_at "da"); (case p6 => walk_at "da"); (case p7 => assumption); (case p8 => assumption); (case p9 => assumption))
  | ((with_reducible refine' ev_is_between ?p1 ?p2 ?p3 ?p4 ?p5 ?p6 ?p7 ?p8 ?p9); (case p1 => walk_at "ev"); (case p2 => walk_at "ev"); (case p3 => walk_at "ev"); (case p4 => walk_at "da"); (case p5 => walk_at "da"); (case p6 => walk_at "da"); (case p7 => assumption); (case p8 => assumption); (case p9 => assumption)))
section
variable {P : Program} {w : World} {K : PySem.W.Frag} {mg : Str → Option Value} {base : Heap}
def iT (f : List Nat) : PyData := .tuple (iD f)
def inD (js : List Nat) (ws : List Rat) : PyData := .tuple [.str (Str.ofString "in"), iT js, .tuple (ws.map raD)]
structure Mix (L : List Pt) (p : Pt) (js : List Nat) (ws : List Rat) : Prop where
  wt : Wt L js p ws
  up : js.Pairwise (· < ·)
  lt : ∀ j ∈ js, j < L.length
  l1 : 1 ≤ js.length
  l3 : js.length ≤ 3
  rb : ∀ w ∈ ws, RB 400 w
def LoR (Z : Wd) (L : List Pt) (p : Pt) : Rl := fun x H2 => (Reg (hullP L) p ∧ ∃ js ws, Mix L p js ws ∧ Da Z H2 x (inD js ws)) ∨ (¬ Reg (hullP L) p ∧ ∃ u v s, Bar L p u v s ∧ B 7000 u ∧ B 7000 v ∧ B 7000 s ∧ Da Z H2 x (outD u v s))
section
variable {Z : Wd} {σ : L2.St} {H : Hp} {te : TE}
theorem ev_tupOfX {RN : Rl} {Pd : List PyData → Prop} (h : Ev Z te σ H RN) (hx : ∀ v H1, Xt Z H H1 → RN v H1 → ∃ ds, Pd ds ∧ Da Z H1 v (.list ds)) : Ev Z (tCB (rTupleOf K) (tCons te tNil)) σ H (fun x H1 => ∃ ds, Pd ds ∧ Da Z H1 x (.tuple ds)) := fun H1 e Q q =>
  h H1 e _ fun w H2 e2 hw => by
    obtain ⟨ds, hds, hd⟩ := hx w H2 (e.trans e2) hw
    cases hd with
    | lst k1 k2 k3 => exact ⟨_, _, rfl, .inl ⟨.inl (.inl k1), fun l hl => q _ _ (e2.trans (.new e2.w2 hl)) ⟨ds, hds, .tup ⟨.inl upd_same⟩ (nS e2.w2 hl) (k3.mono (.new e2.w2 hl))⟩⟩⟩
theorem iT_noL (f : List Nat) : noL (iT f) = true := by
  unfold iT
  rw [noL]
  exact noLL_all fun d hd => by
    obtain ⟨j, _, rfl⟩ := List.mem_map.mp hd
    simp [noL]
theorem iD_ints (f : List Nat) : iD f = (f.map fun (j : Nat) => (j : Int)).map PyData.int := by
  rw [List.map_map]; rfl
end
def G_locate_in (tbs : List (Addr × Str)) : Gv := fun Z vs H R => ∃ v vp L p, vs = [v, vp] ∧ TabW Z tbs ∧ Da Z H v (.tuple (L.map ptD)) ∧ P3 Z vp p H ∧ Pts L ∧ Ok p ∧ R = LoR Z L p
theorem ok_locate_in (T : Tx K mg) (TB : LamX.TabB base mg T.c_ranked T.P_ranked) : FnOk P w K mg base CX0 6 T.f_locate_in T.d_locate_in ["points", "p"] (spOf (G_locate_in (tabs T))) := by
  refine T.F_locate_in.ok sc_locate_in (fun vs H Q E h => ?_) (fun cdv A outer s H vs Q E hr h => ?_)
  · obtain ⟨Z, R, _, ⟨v, vp, L, p, rfl, _⟩, _⟩ := h
    rfl
  obtain ⟨Z, R, hw, ⟨v, vp, L, p, rfl, tw, hd, pp, hL, op, rfl⟩, hq⟩ := h
  refine ⟨_, (pss_cons (ps_set (i := 2) sc_locate_in.nd rfl (Or.inr rfl) (pe_call (ok_hull_indexes T TB) (hr.mono (by decide)) (by rfl) T.g_hull_indexes T.F_hull_indexes.kp T.b_hull_indexes .nil pass0 (pa_cons (pv 0) pa_nil)))
  (pss_cons (ps_setLc (i := 3) (own := [("at", 7)]) (g := gName 7) rfl sc_locate_in.nd rfl rfl (sw_true rfl rfl rfl (by decide +kernel)) (pi_list (pv 2)) (blkOk_by (own := [("at", 7)]) (N := nm_locate_in) (sc := defScope s_locate_in) (by decide +kernel)) (fun _ _ _ _ _ => pg_name (i := 7) sc_locate_in.nd rfl (Or.inl rfl)) (fun _ _ _ _ _ => pts_nil) (fun _ _ _ _ _ => (pe_tup (pa_cons (pv 7) pa_nil))))
  (pss_cons (ps_set (i := 3) sc_locate_in.nd rfl (Or.inl rfl) (pe_op op_cat (pv 3) (pe_lc (own := [("at", 7)]) (g := gName 7) rfl sc_locate_in.nd (pi_list (pe_slice sl_list (pv 2) (po_some pe_int) po_none)) (blkOk_by (own := [("at", 7)]) (N := nm_locate_in) (sc := defScope s_locate_in) (by decide +kernel)) (fun _ _ _ _ _ => pg_name (i := 7) sc_locate_in.nd rfl (Or.inl rfl)) (fun _ _ _ _ _ => pts_nil) (fun _ _ _ _ _ => (pe_tup (pa_cons (pe_ix (ix_listK (K := K) rfl) (pv 2) pe_int (fun _ _ => rfl)) (pa_cons (pv 7) pa_nil)))))))
  (pss_cons (ps_set (i := 3) sc_locate_in.nd rfl (Or.inl rfl) (pe_op op_cat (pv 3) (pe_lc (own := [("k", 8)]) (g := gName 8) rfl sc_locate_in.nd (pi_range2 (by rfl) T.z_range (pa_cons pe_int (pa_cons (pe_op op_sub (pe_callB call_len_seq (by rfl) T.z_len (by decide +kernel) (pa_cons (pv 2) pa_nil)) pe_int) pa_nil))) (blkOk_by (own := [("k", 8)]) (N := nm_locate_in) (sc := defScope s_locate_in) (by decide +kernel)) (fun _ _ _ _ _ => pg_name (i := 8) sc_locate_in.nd rfl (Or.inl rfl)) (fun _ _ _ _ _ => pts_nil) (fun _ _ _ _ _ => (pe_tup (pa_cons (pe_ix (ix_listK (K := K) rfl) (pv 2) (pv 8) (fun _ _ => rfl)) (pa_cons (pe_ix (ix_listK (K := K) rfl) (pv 2) (pe_op op_add (pv 8) pe_int) (fun _ _ => rfl)) pa_nil)))))))
  (pss_cons (ps_set (i := 3) sc_locate_in.nd rfl (Or.inl rfl) (pe_op op_cat (pv 3) (pe_lc (own := [("k", 8)]) (g := gName 8) rfl sc_locate_in.nd (pi_range2 (by rfl) T.z_range (pa_cons pe_int (pa_cons (pe_op op_sub (pe_callB call_len_seq (by rfl) T.z_len (by decide +kernel) (pa_cons (pv 2) pa_nil)) pe_int) pa_nil))) (blkOk_by (own := [("k", 8)]) (N := nm_locate_in) (sc := defScope s_locate_in) (by decide +kernel)) (fun _ _ _ _ _ => pg_name (i := 8) sc_locate_in.nd rfl (Or.inl rfl)) (fun _ _ _ _ _ => pts_nil) (fun _ _ _ _ _ => (pe_tup (pa_cons (pe_ix (ix_listK (K := K) rfl) (pv 2) pe_int (fun _ _ => rfl)) (pa_cons (pe_ix (ix_listK (K := K) rfl) (pv 2) (pv 8) (fun _ _ => rfl)) (pa_cons (pe_ix (ix_listK (K := K) rfl) (pv 2) (pe_op op_add (pv 8) pe_int) (fun _ _ => rfl)) pa_nil))))))))
  (pss_cons (ps_for PassesOwn.never rfl (pi_list (pv 3)) (pg_name (i := 4) sc_locate_in.nd rfl (Or.inl rfl))
  (pss_cons (ps_set (i := 5) sc_locate_in.nd rfl (Or.inl rfl) (pe_callTy call_tuple_of (by rfl) T.z_tuple (by decide +kernel) (pa_cons (pe_callB cr_sortedT (by rfl) T.z_sorted (by decide +kernel) (pa_cons (pv 4) pa_nil)) pa_nil)))
    (pss_cons (ps_set (i := 6) sc_locate_in.nd rfl (Or.inl rfl) (pe_call (ok_weights_in T) (hr.mono (by decide)) (by rfl) T.g_weights_in T.F_weights_in.kp T.b_weights_in .nil pass0 (pa_cons (pv 0) (pa_cons (pv 5) (pa_cons (pv 1) pa_nil)))))
    (pss_one (ps_if (pt_cmpR op_notN (pv 6) pe_non (nomark _))
    (pss_one (ps_ret (pe_tup (pa_cons pe_str (pa_cons (pv 5) (pa_cons (pv 6) pa_nil))))))
    pss_nil)))))
  (pss_one (ps_ret (pe_call (ok_barrier T) (hr.mono (by decide)) (by rfl) T.g_barrier T.F_barrier.kp T.b_barrier .nil pass0 (pa_cons (pv 0) (pa_cons (pv 2) (pa_cons (pv 1) pa_nil)))))))))))), ?_⟩
  rw [show L2.start nm_locate_in [v, vp] = [some v, some vp, none, none, none, none, none, none, none] from rfl]
  have l1 := hL.l1
  have l2 := hL.l2
  have hull := hullP_hull hL
  have hjl := hullI_len L
  have hjs := hullI_lt hL.l1
  refine q_asg (Z := Z) (by walk_at "w") (ev_hull_indexes tw (by walk_at "ev") hd hL) fun vc H1 e1 r1 => ?_
  generalize hj : hullI L = js at *
  have hull' : IsHull (js.map (gt L)) L := by
    have : hullP L = js.map (gt L) := by unfold hullP; rw [hj]
    rw [← this]; exact hull
  have hne : 1 ≤ js.length := by have := hull'.ne; rw [List.length_map] at this; exact this
  have lc : ∀ {H5}, Xt Z H1 H5 → LiR Z (iV js) vc H5 := fun {H5} e5 => by
    obtain ⟨cs, h1, h2⟩ := Da.lstE (r1.mono e5)
    rw [i_daL h2] at h1
    exact h1
  have atj : ∀ k, k < js.length → atI (iV js) (k : Int) = some (.int (jn js k : Int)) := fun k hk => atI_nat (iV_get (jn_get hk))
  have noI : ∀ f : List Nat, noL (iT f) = true := iT_noL
  -- fans
  refine q_asg (Z := Z) (R := DaR Z (.list (js.map fun j => iT [j]))) (by walk_at "w") ?_ fun v3 H2 e2 r2 => ?_
  · have hcc := en_lcLP (Z := Z) (K := K) (σ := [some v, some vp, some vc, none, none, none, none, none, none]) (H := H1) (vs := [7]) (j := 7) (t := tYes) (xs := iV js) (tl := tVar 2) (te := tTup (tCons (tVar 7) tNil)) js (fun _ => true) (fun j => iT [j]) (RN := IsV vc) (by walk_at "ev") (fun w H9 e9 hw9 => by rw [hw9]; exact lc e9) (iV_len _) (by omega) (fun x => rfl) (fun j _ => noI _) (fun i x a H2 e2 _ _ => et_yes) (fun m x m' H5 e5 hi hj _ => ?_)
    · rw [filter_yes] at hcc
      exact hcc.da
    · rw [iV_get hj] at hi
      cases hi
      exact ev_tupD (ds := [.int (m' : Int)]) (ea_consD (ev_da (by walk_at "ev") (.int _)) ea_nilD) (by simp)
  show tSeq _ _ _ [some v, some vp, some vc, some v3, none, none, none, none, none] H2
  refine q_asg (Z := Z) (R := DaR Z (.list (js.map (fun j => iT [j]) ++ (js.drop 1).map (fun j => iT [jn js 0, j])))) (by walk_at "w") (ev_cat (ev_da (by walk_at "ev") r2) (EvN.da ?_) (by simp only [List.length_map, List.length_drop]; omega)) fun v3 H3 e3 r3 => ?_
  · have hcc := en_lcLP (Z := Z) (K := K) (σ := [some v, some vp, some vc, some v3, none, none, none, none, none]) (H := H2) (vs := [7]) (j := 7) (t := tYes) (xs := iV (js.drop 1)) (tl := tSl (rSlL K) (tVar 2) (tPart (tC (.int 1))) tNoPart) (te := tTup (tCons (tOp (rIxL K) (tVar 2) (tC (.int 0))) (tCons (tVar 7) tNil))) (js.drop 1) (fun _ => true) (fun j => iT [jn js 0, j]) (RN := LiR Z (iV (js.drop 1)))
      ((en_slL (R := IsV vc) (xs := iV js) (by walk_at "ev") (fun w H9 e9 hw9 => by rw [hw9]; exact lc (e2.trans e9)) (eo_some ev_c) eo_none).ev fun q H9 e9 _ ⟨h1, h2⟩ => ⟨q, rfl, by rw [h1, cut_rest]; exact congrArg (fun z => some (HO.lst z)) (List.map_drop).symm, h2⟩) (fun w H9 e9 hw9 => hw9) (iV_len _) (by rw [List.length_drop]; omega) (fun x => rfl) (fun j _ => noI _) (fun i x a H2 e2 _ _ => et_yes) (fun m x m' H5 e5 hi hj _ => ?_)
    · rw [filter_yes] at hcc
      exact hcc
    · rw [iV_get hj] at hi
      cases hi
      have hl := lc (e2.trans e5)
      exact ev_tupD (ds := [.int (jn js 0 : Int), .int (m' : Int)]) (ea_consD (ev_da (ev_ixL (by walk_at "ev") hl ev_c (atj 0 (by omega))) (.int _)) (ea_consD (ev_da (by walk_at "ev") (.int _)) ea_nilD)) (by simp)
  show tSeq _ _ _ [some v, some vp, some vc, some v3, none, none, none, none, none] H3
  have hlen2 : (((js.length : Int) - 1) - 1).toNat = js.length - 2 := by omega
  have e13 := e2.trans e3
  refine q_asg (Z := Z) (R := DaR Z (.list (js.map (fun j => iT [j]) ++ (js.drop 1).map (fun j => iT [jn js 0, j]) ++ (List.range (js.length - 2)).map (fun k => iT [jn js (k + 1), jn js (k + 2)])))) (by walk_at "w") (ev_cat (ev_da (by walk_at "ev") r3) (EvN.da ?_) (by simp only [List.length_map, List.length_drop, List.length_append, List.length_range]; omega)) fun v3 H4 e4 r4 => ?_
  · have hl := lc e13
    have hcc := en_lcR2 (Z := Z) (σ := [some v, some vp, some vc, some v3, none, none, none, none, none]) (H := H3) (vs := [8]) (j := 8) (t := tYes) (n := js.length - 2) (lo := 1) (hi := (js.length : Int) - 1) (ta := tCons (tC (.int 1)) (tCons (tOp (rI0 fun i j => .int (i - j)) (tCB (rLen K) (tCons (tVar 2) tNil)) (tC (.int 1))) tNil))
      (te := tTup (tCons (tOp (rIxL K) (tVar 2) (tVar 8)) (tCons (tOp (rIxL K) (tVar 2) (tOp (rI0 fun i j => .int (i + j)) (tVar 8) (tC (.int 1)))) tNil))) (fun _ => true) (fun k => iT [jn js (k + 1), jn js (k + 2)])
      (ea_cons ev_c (ea_cons (ev_is (ev_i0 (ev_lenL (by walk_at "ev") hl) ev_c) (by rw [iV_len])) ea_nil)) hlen2 (by omega) (fun x => rfl) (fun i _ _ => noI _) (fun i H2 e2 _ => et_yes) (fun i H5 e5 hi _ => ?_)
    · rw [givenD_all] at hcc
      exact hcc
    · have hl := lc (e13.trans e5)
      have a1 : atI (iV js) ((1 : Int) + (i : Int)) = some (.int (jn js (i + 1) : Int)) := by rw [show (1 : Int) + (i : Int) = ((i + 1 : Nat) : Int) by omega]; exact atj _ (by omega)
      have a2 : atI (iV js) ((1 : Int) + (i : Int) + 1) = some (.int (jn js (i + 2) : Int)) := by rw [show (1 : Int) + (i : Int) + 1 = ((i + 2 : Nat) : Int) by omega]; exact atj _ (by omega)
      exact ev_tupD (ds := [.int (jn js (i + 1) : Int), .int (jn js (i + 2) : Int)]) (ea_consD (ev_da (ev_ixL (by walk_at "ev") hl (by walk_at "ev") a1) (.int _)) (ea_consD (ev_da (ev_ixL (by walk_at "ev") hl (ev_i0 (by walk_at "ev") ev_c) a2) (.int _)) ea_nilD)) (by simp)
  show tSeq _ _ _ [some v, some vp, some vc, some v3, none, none, none, none, none] H4
  have e14 := e13.trans e4
  refine q_asg (Z := Z) (R := DaR Z (.list ((fansI js).map iT))) (by walk_at "w") (Ev.imp (ev_cat (es := (List.range (js.length - 2)).map (fun k => iT [jn js 0, jn js (k + 1), jn js (k + 2)])) (ev_da (by walk_at "ev") r4) (EvN.da ?_) (by simp only [List.length_map, List.length_drop, List.length_append, List.length_range]; omega)) fun w H5 e5 h5 => ?_) fun v3 H5 e5 r5 => ?_
  · have hl := lc e14
    have hcc := en_lcR2 (Z := Z) (σ := [some v, some vp, some vc, some v3, none, none, none, none, none]) (H := H4) (vs := [8]) (j := 8) (t := tYes) (n := js.length - 2) (lo := 1) (hi := (js.length : Int) - 1) (ta := tCons (tC (.int 1)) (tCons (tOp (rI0 fun i j => .int (i - j)) (tCB (rLen K) (tCons (tVar 2) tNil)) (tC (.int 1))) tNil))
      (te := tTup (tCons (tOp (rIxL K) (tVar 2) (tC (.int 0))) (tCons (tOp (rIxL K) (tVar 2) (tVar 8)) (tCons (tOp (rIxL K) (tVar 2) (tOp (rI0 fun i j => .int (i + j)) (tVar 8) (tC (.int 1)))) tNil)))) (fun _ => true) (fun k => iT [jn js 0, jn js (k + 1), jn js (k + 2)])
      (ea_cons ev_c (ea_cons (ev_is (ev_i0 (ev_lenL (by walk_at "ev") hl) ev_c) (by rw [iV_len])) ea_nil)) hlen2 (by omega) (fun x => rfl) (fun i _ _ => noI _) (fun i H2 e2 _ => et_yes) (fun i H5 e5 hi _ => ?_)
    · rw [givenD_all] at hcc
      exact hcc
    · have hl := lc (e14.trans e5)
      have a1 : atI (iV js) ((1 : Int) + (i : Int)) = some (.int (jn js (i + 1) : Int)) := by rw [show (1 : Int) + (i : Int) = ((i + 1 : Nat) : Int) by omega]; exact atj _ (by omega)
      have a2 : atI (iV js) ((1 : Int) + (i : Int) + 1) = some (.int (jn js (i + 2) : Int)) := by rw [show (1 : Int) + (i : Int) + 1 = ((i + 2 : Nat) : Int) by omega]; exact atj _ (by omega)
      exact ev_tupD (ds := [.int (jn js 0 : Int), .int (jn js (i + 1) : Int), .int (jn js (i + 2) : Int)]) (ea_consD (ev_da (ev_ixL (by walk_at "ev") hl ev_c (atj 0 (by omega))) (.int _)) (ea_consD (ev_da (ev_ixL (by walk_at "ev") hl (by walk_at "ev") a1) (.int _)) (ea_consD (ev_da (ev_ixL (by walk_at "ev") hl (ev_i0 (by walk_at "ev") ev_c) a2) (.int _)) ea_nilD))) (by simp)
  · unfold fansI
    rw [List.map_append, List.map_append, List.map_append, List.map_map, List.map_map, List.map_map, List.map_map]
    exact h5
  show tSeq _ _ _ [some v, some vp, some vc, some v3, none, none, none, none, none] H5
  have e15 := e14.trans e5
  have hregf := fun (h : Reg (hullP L) p) => fans_in.mp (show FanC (js.map (gt L)) p from by
    have := reg_fan hL.ok op hull h
    have e : hullP L = js.map (gt L) := by unfold hullP; rw [hj]
    rw [e] at this
    exact this)
  have hfreg : ∀ f ∈ fansI js, In L p f → Reg (hullP L) p := fun f hf hin => by
    have e : hullP L = js.map (gt L) := by unfold hullP; rw [hj]
    rw [e]
    exact fan_reg hL.ok op hull' (fans_in.mpr ⟨f, hf, hin⟩)
  obtain ⟨fs, hfs, hfsd⟩ := Da.lstE r5
  have hfl : fs.length = (fansI js).length := by rw [hfsd.length, List.length_map]
  refine q_forL (Z := Z) (by walk_at "w") (by walk_at "ev") hfs (fun i σ' H' => ∃ y4 y5 y6 : Option V, σ' = [some v, some vp, some vc, some v3, y4, y5, y6, none, none] ∧ Xt Z H5 H' ∧ ∀ f ∈ (fansI js).take i, ¬ In L p f) (fun H6 e6 => ⟨none, none, none, rfl, e6, fun f hf => by simp at hf⟩) (fun i σ' H' ⟨_, _, _, _, e6, _⟩ => hfs.mono e6) (fun i y σ' H' hy ⟨y4, y5, y6, es, e6, hno⟩ => ?_) (fun σ' H' ⟨y4, y5, y6, es, e6, hno⟩ => ?_)
  · subst es
    obtain ⟨f, hf, hfd⟩ := getD hfsd hy
    have hfm := List.mem_of_getElem? hf
    obtain ⟨f1, f3, flt, fnd⟩ := fan_ok hull' hjs hfm
    show tSeq _ _ _ [some v, some vp, some vc, some v3, some y, y5, y6, none, none] H'
    refine q_asg (Z := Z) (R := fun x H7 => ∃ ds, (∃ f' : List Nat, ds = iD f' ∧ f'.Perm f ∧ f'.Pairwise (· < ·)) ∧ Da Z H7 x (.tuple ds)) (by walk_at "w") (ev_tupOfX (RN := fun x H7 => ∃ f' : List Nat, f'.Perm f ∧ f'.Pairwise (· < ·) ∧ Da Z H7 x (.list (iD f'))) (ev_sortedT (ns := f.map fun (j : Nat) => (j : Int)) (ev_da (by walk_at "ev") (by rw [← iD_ints]; exact hfd.mono e6)) (by rw [List.length_map]; omega) fun ns' h1 h2 w H7 h7 => ?_) fun w H7 e7 ⟨f', h1, h2, h3⟩ => ⟨_, ⟨f', rfl, h1, h2⟩, h3⟩) fun vch H7 e7 ⟨ds, ⟨f', hds, hperm, hup⟩, hch⟩ => ?_
    · obtain ⟨f', k1, k2, k3⟩ := sorted_nat h1 h2 fnd
      refine ⟨f', k1, k3, ?_⟩
      rw [iD_ints, ← k2]
      exact h7
    · subst hds
      obtain ⟨cs, hcs, hcsd⟩ := Da.tupE hch
      rw [i_daL hcsd] at hcs
      have f'1 : 1 ≤ f'.length := by rw [hperm.length_eq]; exact f1
      have f'3 : f'.length ≤ 3 := by rw [hperm.length_eq]; exact f3
      have f'lt : ∀ j ∈ f', j < L.length := fun j hj => flt j (hperm.mem_iff.mp hj)
      have ep := In_perm (L := L) (p := p) hperm f'3
      have e07 := (e1.trans e15).trans (e6.trans e7)
      show tSeq _ _ _ [some v, some vp, some vc, some v3, some y, some vch, y6, none, none] H7
      refine q_asg (Z := Z) (by walk_at "w") (ev_weights_in (by walk_at "ev") (by walk_at "ev") (by walk_at "ev") (hd.mono e07) hcs (pp.mono e07) hL.ok op f'lt f'1 f'3) fun vw H8 e8 r8 => ?_
      show tIfS _ _ _ _ [some v, some vp, some vc, some v3, some y, some vch, some vw, none, none] H8
      rcases r8 with ⟨hnin, hnon⟩ | ⟨hyin, ws, hwt, hrb, hdw⟩
      · subst hnon
        refine s_when (Z := Z) (b := false) (by walk_at "w") (et_is (et_test (ev_notN (by walk_at "ev"))) rfl) (fun h => by cases h) (fun _ H9 e9 => ⟨_, _, _, rfl, e6.trans (e7.trans (e8.trans e9)), fun g hg => ?_⟩)
        rw [List.take_succ, hf] at hg
        rcases List.mem_append.mp hg with hg | hg
        · exact hno g hg
        · have : g = f := by simpa using hg
          subst this
          exact fun h => hnin (ep.mpr h)
      · refine s_when (Z := Z) (b := true) (by walk_at "w") (et_is (et_test (ev_notN (by walk_at "ev"))) ?_) (fun _ H9 e9 => ?_) (fun h => by cases h)
        · cases hdw
          rfl
        · refine s_ret (Z := Z) (R := DaR Z (inD f' ws)) (by walk_at "w") (ev_tupD (ea_consD (ev_da ev_c (.str _)) (ea_consD (ev_da (by walk_at "ev") (hch.mono (e8.trans e9))) (ea_consD (ev_da (by walk_at "ev") (hdw.mono e9)) ea_nilD))) (by simp)) fun vr H10 e10 r10 => hq _ _ (e07.trans (e8.trans (e9.trans e10))) (.inl ⟨hfreg f hfm (ep.mp hyin), f', ws, ⟨hwt, hup, f'lt, f'1, f'3, hrb⟩, r10⟩)
  · subst es
    rw [hfl, List.take_length] at hno
    have hnreg : ¬ Reg (hullP L) p := fun h => by
      obtain ⟨f, hf, hin⟩ := hregf h
      exact hno f hf hin
    have e07 := (e1.trans e15).trans e6
    refine s_ret (Z := Z) (by walk_at "w") (ev_barrier (by walk_at "ev") (by walk_at "ev") (by walk_at "ev") (hd.mono e07) (r1.mono (e15.trans e6)) (pp.mono e07) hL.ok op hjs (by omega) hull' (by
      have e : hullP L = js.map (gt L) := by unfold hullP; rw [hj]
      rw [← e]; exact hnreg)) fun vr H9 e9 r9 => hq _ _ (e07.trans e9) (.inr ⟨hnreg, r9⟩)
end
end Hk
/-! ## F14 -/
namespace Hk
open PySem PySem.Spec PyProof.Rows L2
local macro_rules | `(tactic| walk_at "bd") => `(tactic| first
  | assumption
  | exact (show B 64 _ from by unfold B; decide)
  | (refine' B.mul ?b1 ?b2; (case b1 => walk_at "bd"); (case b2 => walk_at "bd"))
  | (refine' B.sub ?b1 ?b2; (case b1 => walk_at "bd"); (case b2 => walk_at "bd"))
  | (refine' B.add ?b1 ?b2; (case b1 => walk_at "bd"); (case b2 => walk_at "bd"))
  | (refine' B.neg ?b1; (case b1 => walk_at "bd")))
local macro_rules | `(tactic| walk_at "da") => `(tactic| first
  | assumption
  | exact Da.int _
  | exact Da.non
  | exact Da.bl _
  | exact Da.str _
  | ((with_reducible refine' P3.mono (by assumption) ?d1); (case d1 => walk_at "da"))
  | ((with_reducible refine' Ra.mono (by assumption) ?d1); (case d1 => walk_at "da"))
  | ((with_reducible refine' TuR.mono (by assumption) ?d1); (case d1 => walk_at "da"))
  | ((with_reducible refine' LiR.mono (by assumption) ?d1); (case d1 => walk_at "da"))
  | ((with_reducible refine' Da.mono (by assumption) ?d1); (case d1 => walk_at "da")))
local macro_rules | `(tactic| walk_at "xt") => `(tactic| first
  | assumption
  | (refine' Xt.trans ?x1 (by assumption); (case x1 => walk_at "xt")))
local macro_rules | `(tactic| walk_at "w") => `(tactic| first
  | assumption
  | exact Xt.w2 (by assumption)
  | exact Xt.w1 (by assumption))
local macro_rules | `(tactic| walk_at "side") => `(tactic| first
  | assumption
  | (refine' B.cmul ?b1 ?b2 ?b3; (case b1 => walk_at "bd"); (case b2 => walk_at "bd"); (case b3 => first | decide | omega))
  | (refine' B.cdiv ?b1 ?b2 ?b3; (case b1 => assumption); (case b2 => walk_at "bd"); (case b3 => first | decide | omega)))
local macro_rules | `(tactic| walk_at "ea") => `(tactic| first
  | with_reducible exact ea_nil
  | ((with_reducible refine' ea_cons ?p1 ?p2); (case p1 => walk_at "ev"); (case p2 => walk_at "ea")))
local macro_rules | `(tactic| walk_at "et") => `(tactic| first
  | ((with_reducible refine' et_and ?p1 ?p2); (case p1 => walk_at "et"); (case p2 => intro _; walk_at "et"))
  | ((with_reducible refine' et_or ?p1 ?p2); (case p1 => walk_at "et"); (case p2 => intro _; walk_at "et"))
  | ((with_reducible refine' et_not ?p1); (case p1 => walk_at "et"))
  | ((with_reducible refine' et_test ?p1); (case p1 => walk_at "ev"))
  | ((with_reducible refine' et_B ?p1); (case p1 => walk_at "ev")))
local macro_rules | `(tactic| walk_at "ev") => `(tactic| first
  | with_reducible exact ev_c
  | ((with_reducible refine' ev_var ?v1); (case v1 => exact rfl))
  | ((with_reducible refine' ev_px ?p1 ?p2 ?p3); (case p1 => walk_at "ev"); (case p2 => walk_at "da"); (case p3 => with_reducible exact ev_c))
  | ((with_reducible refine' ev_py ?p1 ?p2 ?p3); (case p1 => walk_at "ev"); (case p2 => walk_at "da"); (case p3 => with_reducible exact ev_c))
  | ((with_reducible refine' ev_pw ?p1 ?p2 ?p3); (case p1 => walk_at "ev"); (case p2 => walk_at "da"); (case p3 => with_reducible exact ev_c))
  | ((with_reducible refine' ev_ixT ?p1 ?p2 ?p3 ?p4); (case p1 => walk_at "ev"); (case p2 => walk_at "da"); (case p3 => walk_at "ev"); (case p4 => first | exact rfl | assumption))
  | ((with_reducible refine' ev_ixL ?p1 ?p2 ?p3 ?p4); (case p1 => walk_at "ev"); (case p2 => walk_at "da"); (case p3 => walk_at "ev"); (case p4 => first | exact rfl | assumption))
  | ((with_reducible refine' ev_i0 ?p1 ?p2); (case p1 => walk_at "ev"); (case p2 => walk_at "ev"))
  | ((with_reducible refine' ev_iC ?p1 ?p2 ?p3); (case p1 => walk_at "ev"); (case p2 => walk_at "ev"); (case p3 => walk_at "side"))
  | ((with_reducible refine' ev_neg ?p1); (case p1 => walk_at "ev"))
  | ((with_reducible refine' ev_eq ?p1 ?p2 ?p3); (case p1 => walk_at "ev"); (case p2 => walk_at "ev"); (case p3 => exact rfl))
  | ((with_reducible refine' ev_ne ?p1 ?p2 ?p3); (case p1 => walk_at "ev"); (case p2 => walk_at "ev"); (case p3 => exact rfl))
  | ((with_reducible refine' ev_andV ?p1 ?p2); (case p1 => walk_at "ev"); (case p2 => intro _; walk_at "ev"))
  | ((with_reducible refine' ev_orV ?p1 ?p2); (case p1 => walk_at "ev"); (case p2 => intro _; walk_at "ev"))
  | ((with_reducible refine' ev_notV ?p1); (case p1 => walk_at "ev"))
  | ((with_reducible refine' ev_subB ?p1 ?p2); (case p1 => walk_at "ev"); (case p2 => walk_at "ev"))
  | ((with_reducible refine' ev_chI ?p1 ?p2 ?p3); (case p1 => walk_at "ev"); (case p2 => walk_at "ev"); (case p3 => walk_at "ev"))
  | ((with_reducible refine' ev_isInt ?p1 ?p2); (case p1 => walk_at "ev"); (case p2 => walk_at "da"))
  | ((with_reducible refine' ev_isBool ?p1 ?p2); (case p1 => walk_at "ev"); (case p2 => walk_at "da"))
  | ((with_reducible refine' ev_isStr ?p1 ?p2); (case p1 => walk_at "ev"); (case p2 => walk_at "da"))
  | ((with_reducible refine' ev_isTup ?p1 ?p2); (case p1 => walk_at "ev"); (case p2 => walk_at "da"))
  | ((with_reducible refine' ev_isLst ?p1 ?p2); (case p1 => walk_at "ev"); (case p2 => walk_at "da"))
  | ((with_reducible refine' ev_isTL ?p1 ?p2); (case p1 => walk_at "ev"); (case p2 => walk_at "da"))
  | ((with_reducible refine' ev_lenT ?p1 ?p2); (case p1 => walk_at "ev"); (case p2 => walk_at "da"))
  | ((with_reducible refine' ev_lenL ?p1 ?p2); (case p1 => walk_at "ev"); (case p2 => walk_at "da"))
  | ((with_reducible refine' ev_abs ?p1); (case p1 => walk_at "ev"))
  | ((with_reducible refine' ev_min2 ?p1 ?p2); (case p1 => walk_at "ev"); (case p2 => walk_at "ev"))
  | ((with_reducible refine' ev_int1 ?p1); (case p1 => walk_at "ev"))
  | ((with_reducible refine' ev_isN ?p1); (case p1 => walk_at "ev"))
  | ((with_reducible refine' ev_notN ?p1); (case p1 => walk_at "ev"))
  | ((with_reducible refine' ev_sign ?p1); (case p1 => walk_at "ev"))
  | ((with_reducible refine' ev_gcd ?p1 ?p2); (case p1 => walk_at "ev"); (case p2 => walk_at "ev"))
  | ((with_reducible refine' ev_is_in ?p1 ?p2 ?p3 ?p4); (case p1 => walk_at "ev"); (case p2 => walk_at "da"); (case p3 => walk_at "ev"); (case p4 => walk_at "ev"))
  | ((with_reducible refine' ev_doubled ?p1 ?p2 ?p3 ?p4 ?p5 ?p6 ?p7 ?p8 ?p9); (case p1 => walk_at "ev"); (case p2 => walk_at "ev"); (case p3 => walk_at "ev"); (case p4 => walk_at "da"); (case p5 => walk_at "da"); (case p6 => walk_at "da"); (case p7 => assumption); (case p8 => assumption); (case p9 => assumption))
  | ((with_reducible refine' ev_order_of ?p1 ?p2 ?p3 ?p4 ?p5 ?p6); (case p1 => walk_at "ev"); (case p2 => walk_at "ev"); (case p3 => walk_at "da"); (case p4 => walk_at "da"); (case p5 => assumption); (case p6 => assumption))
  | ((with_reducible refine' ev_turn_of ?p1 ?p2 ?p3 ?p4 ?p5 ?p6 ?p7 ?p8 ?p9); (case p1 => walk_at "ev"); (case p2 => walk_at "ev"); (case p3 => walk_at "ev"); (case p4 => walk_at "da"); (case p5 => walk_at "da"); (case p6 => walk_at "da"); (case p7 => assumption); (case p8 => assumption); (case p9 => assumption))
  | ((with_reducible refine' ev_is_between ?p1 ?p2 ?p3 ?p4 ?p5 ?p6 ?p7 ?p8 ?p9); (case p1 => walk_at "ev"); (case p2 => walk_at "ev"); (case p3 => walk_at "ev"); (case p4 => walk_at "da"); (case p5 => walk_at "da"); (case p6 => walk_at "da"); (case p7 => assumption); (case p8 => assumption); (case p9 => assumption)))
section
variable {P : Program} {w : World} {K : PySem.W.Frag} {mg : Str → Option Value} {base : Heap}
/-! locate_in_hull -/
section
variable {Z : Wd} {σ : L2.St} {H : Hp} {ta tb tc : TE} {E : XK}
theorem ev_locate_in {tbs : List (Addr × Str)} {v vp : V} {L : List Pt} {p : Pt} (tw : TabW Z tbs) (h1 : Ev Z ta σ H (IsV v)) (h2 : Ev Z tb σ H (IsV vp)) (hp : Da Z H v (.tuple (L.map ptD))) (pp : P3 Z vp p H) (ho : Pts L) (op : Ok p) : Ev Z (tCall (spOf (G_locate_in tbs)) [] E (tCons ta (tCons tb tNil))) σ H (LoR Z L p) :=
  ev_call (ea_cons h1 (ea_cons h2 ea_nil)) fun H1 e => ⟨v, vp, L, p, rfl, tw, hp.mono e, pp.mono e, ho, op, rfl⟩
end
def G_locate_in_hull (tbs : List (Addr × Str)) : Gv := fun Z vs H R => ∃ v vp L p, vs = [v, vp] ∧ TabW Z tbs ∧ Da Z H v (.tuple (L.map ptD)) ∧ P3 Z vp p H ∧ Pts L ∧ Ok p ∧ R = LoR Z L p
theorem ok_locate_in_hull (T : Tx K mg) (TB : LamX.TabB base mg T.c_ranked T.P_ranked) : FnOk P w K mg base CX0 7 T.f_locate_in_hull T.d_locate_in_hull ["points", "p"] (spOf (G_locate_in_hull (tabs T))) := by
  refine T.F_locate_in_hull.ok sc_locate_in_hull (fun vs H Q E h => ?_) (fun cdv A outer s H vs Q E hr h => ?_)
  · obtain ⟨Z, R, _, ⟨v, vp, L, p, rfl, _⟩, _⟩ := h
    rfl
  obtain ⟨Z, R, hw, ⟨v, vp, L, p, rfl, tw, hd, pp, hL, op, rfl⟩, hq⟩ := h
  refine ⟨_, (pss_cons (ps_expr (pe_call (ok_need_points T) (hr.mono (by decide)) (by rfl) T.g_need_points T.F_need_points.kp T.b_need_points .nil pass0 (pa_cons (pv 0) pa_nil)))
  (pss_cons (ps_expr (pe_call (ok_need_point T) (hr.mono (by decide)) (by rfl) T.g_need_point T.F_need_point.kp T.b_need_point .nil pass0 (pa_cons (pv 1) pa_nil)))
  (pss_one (ps_ret (pe_call (ok_locate_in T TB) (hr.mono (by decide)) (by rfl) T.g_locate_in T.F_locate_in.kp T.b_locate_in .nil pass0 (pa_cons (pv 0) (pa_cons (pv 1) pa_nil))))))), ?_⟩
  rw [show L2.start nm_locate_in_hull [v, vp] = [some v, some vp] from rfl]
  refine q_drop (Z := Z) (by walk_at "w") (ev_need_points (by walk_at "ev") hd hL) fun v1 H1 e1 r1 => ?_
  refine q_drop (Z := Z) (by walk_at "w") (ev_need_point (by walk_at "ev") (pp.mono e1) op) fun v2 H2 e2 r2 => ?_
  exact s_ret (Z := Z) (by walk_at "w") (ev_locate_in tw (by walk_at "ev") (by walk_at "ev") (hd.mono (e1.trans e2)) (pp.mono (e1.trans e2)) hL op) fun v3 H3 e3 r3 => hq _ _ (by walk_at "xt") r3
/-! is_barrier -/
def barQ (L : List Pt) (p : Pt) (u v s : Int) : Bool := (L.all fun q => decide (u * q.x + v * q.y ≤ s * q.w)) && decide (s * p.w < u * p.x + v * p.y)
def barB (L : List Pt) (p : Pt) (d1 d2 d3 : PyData) : Bool := match d1, d2, d3 with
  | .int u, .int v, .int s => barQ L p u v s
  | _, _, _ => false
theorem barB_no {L : List Pt} {p : Pt} {d1 d2 d3 : PyData} (h : ¬ (∃ u v s, d1 = .int u ∧ d2 = .int v ∧ d3 = .int s)) : barB L p d1 d2 d3 = false := by
  unfold barB
  split
  · exact absurd ⟨_, _, _, rfl, rfl, rfl⟩ h
  · rfl
theorem Bar.q {L : List Pt} {p : Pt} {u v s : Int} : barQ L p u v s = true ↔ Bar L p u v s := by
  unfold barQ
  rw [Bool.and_eq_true, List.all_eq_true, decide_eq_true_iff]
  constructor
  · rintro ⟨h1, h2⟩
    exact ⟨fun q hq => by simpa using h1 q hq, h2⟩
  · rintro ⟨h1, h2⟩
    exact ⟨fun q hq => by simpa using h1 q hq, h2⟩
def bigI (d : PyData) : Prop := ∀ i, d = .int i → B 9000 i
theorem eqv_nil (ds : List PyData) : PyData.eqv (.list ds) (.list []) = decide (ds = []) := by
  cases ds with
  | nil => simp [PyData.eqv, PyData.eqvAll]
  | cons a r => simp [PyData.eqv, PyData.eqvAll]
theorem sh_nil : SeqAt.shaped (.list []) = true := (sm_lst (n := 0) (ds := []) (fun d h => by cases h)).sh (by decide)
def G_is_barrier : Gv := fun Z vs H R => ∃ v vp vv L p d0 d1 d2 d3, vs = [v, vp, vv] ∧ Da Z H v (.tuple (L.map ptD)) ∧ P3 Z vp p H ∧ (∀ q ∈ L, Nm q) ∧ L.length ≤ 40 ∧ Nm p ∧ Da Z H vv (.tuple [d0, d1, d2, d3]) ∧ bigI d1 ∧ bigI d2 ∧ bigI d3 ∧ R = IsV (.bl (barB L p d1 d2 d3))
theorem isInt_iff {d : PyData} : (!isI d || isB d) = false ↔ ∃ i, d = .int i := by
  cases d <;> simp [isI, isB]
theorem ok_is_barrier (T : Tx K mg) : FnOk P w K mg base CX0 1 T.f_is_barrier T.d_is_barrier ["points", "p", "value"] (spOf G_is_barrier) := by
  refine T.F_is_barrier.ok sc_is_barrier (fun vs H Q E h => ?_) (fun cdv A outer s H vs Q E hr h => ?_)
  · obtain ⟨Z, R, _, ⟨v, vp, vv, L, p, _, _, _, _, rfl, _⟩, _⟩ := h
    rfl
  obtain ⟨Z, R, hw, ⟨v, vp, vv, L, p, d0, d1, d2, d3, rfl, hd, pp, hL, hl, np, hv, g1, g2, g3, rfl⟩, hq⟩ := h
  refine ⟨_, (pss_cons (ps_for PassesOwn.never rfl (pi_tup (pe_slice sl_tupA (pv 2) (po_some pe_int) po_none)) (pg_name (i := 3) sc_is_barrier.nd rfl (Or.inl rfl))
  (pss_one (ps_if (PW.pt (pw_or (pt_not (pt_val (pe_callB call_isi (by rfl) T.z_isinstance (by decide +kernel) (pa_cons (pv 3) (pa_cons (pe_bltn (v := .ty "int") (u := .type "int") (by rfl) T.z_int (by decide +kernel) rfl) pa_nil))))) (pw_or1 (pt_val (pe_callB call_isi (by rfl) T.z_isinstance (by decide +kernel) (pa_cons (pv 3) (pa_cons (pe_bltn (v := .ty "bool") (u := .type "bool") (by rfl) T.z_bool (by decide +kernel) rfl) pa_nil)))))))
    (pss_one (ps_ret pe_bl))
    pss_nil)))
  (pss_cons (ps_asg (pe_slice sl_tupA (pv 2) (po_some pe_int) po_none) (pg_tup rfl (pgs_cons (pg_name (i := 4) sc_is_barrier.nd rfl (Or.inr rfl)) (pgs_cons (pg_name (i := 5) sc_is_barrier.nd rfl (Or.inr rfl)) (pgs_cons (pg_name (i := 6) sc_is_barrier.nd rfl (Or.inr rfl)) pgs_nil)))))
  (pss_cons (ps_if (pt_cmpR op_le (pe_op op_add (pe_op op_mulW (pv 4) (pe_ix ix_tup (pv 1) pe_int (fun _ _ => rfl))) (pe_op op_mulW (pv 5) (pe_ix ix_tup (pv 1) pe_int (fun _ _ => rfl)))) (pe_op op_mulW (pv 6) (pe_ix ix_tup (pv 1) pe_int (fun _ _ => rfl))) (nomark _))
  (pss_one (ps_ret pe_bl))
  pss_nil)
  (pss_one (ps_ret (pe_cmpR (op_eqD hr.units) (pe_lc (own := [("a", 7)]) (g := gName 7) rfl sc_is_barrier.nd (pi_tup (pv 0)) (blkOk_by (own := [("a", 7)]) (N := nm_is_barrier) (sc := defScope s_is_barrier) (by decide +kernel)) (fun _ _ _ _ _ => pg_name (i := 7) sc_is_barrier.nd rfl (Or.inl rfl)) (fun _ _ _ _ _ => pts_one (pt_cmpR op_gt (pe_op op_add (pe_op op_mulW (pv 4) (pe_ix (ix_tupK (K := K) rfl) (pv 7) pe_int (fun _ _ => rfl))) (pe_op op_mulW (pv 5) (pe_ix (ix_tupK (K := K) rfl) (pv 7) pe_int (fun _ _ => rfl)))) (pe_op op_mulW (pv 6) (pe_ix (ix_tupK (K := K) rfl) (pv 7) pe_int (fun _ _ => rfl))) (nomark _))) (fun _ _ _ _ _ => (pv 7))) (pe_lst pa_nil) (nomark _))))))), ?_⟩
  rw [show L2.start nm_is_barrier [v, vp, vv] = [some v, some vp, some vv, none, none, none, none, none] from rfl]
  obtain ⟨xs, hx, hxs⟩ := hd.tupE
  have hlen : xs.length = L.length := by rw [hxs.length, List.length_map]
  obtain ⟨ys, hy, hys⟩ := hv.tupE
  cases hys with
  | cons y0 hys =>
  obtain ⟨v1, v2, v3, rfl, y1, y2, y3⟩ := da3 hys
  have sl : ∀ {H5 σ}, Xt Z H H5 → σ[2]? = some (some vv) → Ev Z (tSl (rSlA K) (tVar 2) (tPart (tC (.int 1))) tNoPart) σ H5 (TuR Z [v1, v2, v3]) := fun {H5 σ} e5 hs => by
    have := ev_slT (K := K) (Z := Z) (σ := σ) (lo := some 1) (hi := none) (ev_var hs) (hy.mono e5) (eo_some ev_c) eo_none
    rw [cut_rest] at this
    exact this
  refine q_forNT (Z := Z) (by walk_at "w") (sl (.refl hw) rfl) fun x H1 e1 hx1 => ⟨[v1, v2, v3], hx1, fun i σ' H' => ∃ y, σ' = [some v, some vp, some vv, y, none, none, none, none] ∧ Xt Z H1 H' ∧ ∀ j d, j < i → [d1, d2, d3][j]? = some d → ∃ k, d = .int k, ⟨none, rfl, .refl e1.w2, fun j d h => absurd h (Nat.not_lt_zero _)⟩, fun i σ' H' ⟨_, _, e2, _⟩ => hx1.mono e2, ?_, ?_⟩
  · rintro i y σ' H' hy ⟨y3, rfl, e2, hk⟩
    obtain ⟨dy, hdy, hyd⟩ : ∃ dy, [d1, d2, d3][i]? = some dy ∧ Da Z H y dy := by
      match i, hy with
      | 0, hy => cases hy; exact ⟨_, rfl, y1⟩
      | 1, hy => cases hy; exact ⟨_, rfl, y2⟩
      | 2, hy => cases hy; exact ⟨_, rfl, ‹Da Z H v3 d3›⟩
    have hyd2 := hyd.mono (e1.trans e2)
    show tIfS _ _ _ _ [some v, some vp, some vv, some y, none, none, none, none] H'
    refine s_when (Z := Z) (b := !isI dy || isB dy) (by walk_at "w") (et_or (et_not (et_B (by walk_at "ev"))) fun _ => et_B (by walk_at "ev")) (fun hb H3 e3 => ?_) (fun hb H3 e3 => ?_)
    · refine s_ret (Z := Z) (by walk_at "w") (by walk_at "ev") fun w H4 e4 r1 => hq _ _ (by walk_at "xt") ?_
      rw [r1, barB_no]
      rintro ⟨u, w', s', rfl, rfl, rfl⟩
      have : ∃ k, dy = .int k := by
        match i, hdy with
        | 0, h => cases h; exact ⟨_, rfl⟩
        | 1, h => cases h; exact ⟨_, rfl⟩
        | 2, h => cases h; exact ⟨_, rfl⟩
      rw [isInt_iff.mpr this] at hb
      cases hb
    · refine ⟨_, rfl, by walk_at "xt", fun j d hj hd => ?_⟩
      rcases Nat.lt_or_eq_of_le (Nat.lt_succ_iff.mp hj) with h | h
      · exact hk j d h hd
      · subst h
        rw [hdy] at hd
        cases hd
        exact isInt_iff.mp hb
  · rintro σ' H' ⟨yy, rfl, e2, hk⟩
    obtain ⟨u, rfl⟩ := hk 0 d1 (by simp) rfl
    obtain ⟨w', rfl⟩ := hk 1 d2 (by simp) rfl
    obtain ⟨s', rfl⟩ := hk 2 d3 (by simp) rfl
    have bu := g1 u rfl
    have bv := g2 w' rfl
    have bs := g3 s' rfl
    cases y1
    cases y2
    cases ‹Da Z H v3 (.int s')›
    obtain ⟨p1, p2, p3, _⟩ := id np
    have e12 := e1.trans e2
    refine q_asgG (Z := Z) (by walk_at "w") (sl e12 rfl) fun w H3 e3 r3 => g_tup3 r3 ?_
    show tSeq _ _ _ [some v, some vp, some vv, yy, some (.int u), some (.int w'), some (.int s'), none] H3
    have pp3 := pp.mono (e12.trans e3)
    have c1 : CMulW u p.x := B.cmul bu p1 (by decide)
    have c2 : CMulW w' p.y := B.cmul bv p2 (by decide)
    have c3 : CMulW s' p.w := B.cmul bs p3 (by decide)
    refine q_when (Z := Z) (b := decide (u * p.x + w' * p.y ≤ s' * p.w)) (by walk_at "w") (by walk_at "et") (fun hb H4 e4 => ?_) (fun hb H4 e4 => ?_)
    · have hb := of_decide_eq_true hb
      refine s_ret (Z := Z) (by walk_at "w") (by walk_at "ev") fun w H4 e4 r1 => hq _ _ (by walk_at "xt") ?_
      rw [r1]
      show V.bl false = V.bl (barQ L p u w' s')
      unfold barQ
      rw [decide_eq_false (show ¬ s' * p.w < u * p.x + w' * p.y by omega), Bool.and_false]
    · have hb := of_decide_eq_false hb
      have e14 := e12.trans (e3.trans e4)
      have hcc := en_lcTP (Z := Z) (K := K) (σ := [some v, some vp, some vv, yy, some (.int u), some (.int w'), some (.int s'), none]) (H := H4) (vs := [7]) (j := 7) (xs := xs) (tl := tVar 0)
        (t := tTest (tOp (rI0 fun i j => .bl (decide (j < i))) (tOp (rI0 fun i j => .int (i + j)) (tOp (rI CMulW fun i j => .int (i * j)) (tVar 4) (tOp (rIxT K) (tVar 7) (tC (.int 0)))) (tOp (rI CMulW fun i j => .int (i * j)) (tVar 5) (tOp (rIxT K) (tVar 7) (tC (.int 1))))) (tOp (rI CMulW fun i j => .int (i * j)) (tVar 6) (tOp (rIxT K) (tVar 7) (tC (.int 2))))))
        (te := tVar 7) L (fun q => decide (s' * q.w < u * q.x + w' * q.y)) ptD (by walk_at "ev") (hx.mono e14) hlen (by omega) (fun x => rfl) (fun q _ => ptD_noL q) (fun i x q H5 e5 hi hq' => ?_) (fun i x q H5 e5 hi hq' _ => ?_)
      · refine s_ret (Z := Z) (R := IsV (.bl (barQ L p u w' s'))) (by walk_at "w") (ev_is (ev_eqDD hcc.da (ev_lstD ea_nilD (by simp)) (by simp [nod, pts_nod]) (by simp [nod, nodL]) ((sm_ptsL _).sh (by decide)) sh_nil) ?_) fun w H6 e6 r1 => hq _ _ (by walk_at "xt") r1
        rw [eqv_nil]
        unfold barQ
        rw [decide_eq_true (show s' * p.w < u * p.x + w' * p.y by omega), Bool.and_true]
        congr 1
        rw [Bool.eq_iff_iff, decide_eq_true_iff, List.map_eq_nil_iff, List.filter_eq_nil_iff, List.all_eq_true]
        constructor
        · intro h q hq
          have := h q hq
          simp at this ⊢
          omega
        · intro h q hq
          have := h q hq
          simp at this ⊢
          omega
      · obtain ⟨q', hq1, pq⟩ := getPt hxs hi
        rw [hq'] at hq1
        cases hq1
        have pq2 := pq.mono (e14.trans e5)
        obtain ⟨q1, q2, q3, _⟩ := hL q (List.mem_of_getElem? hq')
        have c1 : CMulW u q.x := B.cmul bu q1 (by decide)
        have c2 : CMulW w' q.y := B.cmul bv q2 (by decide)
        have c3 : CMulW s' q.w := B.cmul bs q3 (by decide)
        exact et_test (ev_i0 (ev_i0 (by walk_at "ev") (by walk_at "ev")) (by walk_at "ev"))
      · obtain ⟨q', hq1, pq⟩ := getPt hxs hi
        rw [hq'] at hq1
        cases hq1
        exact ev_da (by walk_at "ev") (pq.mono (e14.trans e5)).da
section
variable {Z : Wd} {σ : L2.St} {H : Hp} {ta tb tc : TE} {E : XK}
theorem ev_is_barrier {v vp vv : V} {L : List Pt} {p : Pt} {d0 d1 d2 d3 : PyData} (h1 : Ev Z ta σ H (IsV v)) (h2 : Ev Z tb σ H (IsV vp)) (h3 : Ev Z tc σ H (IsV vv)) (hd : Da Z H v (.tuple (L.map ptD))) (pp : P3 Z vp p H) (hL : ∀ q ∈ L, Nm q) (hl : L.length ≤ 40) (np : Nm p) (hv : Da Z H vv (.tuple [d0, d1, d2, d3])) (g1 : bigI d1) (g2 : bigI d2) (g3 : bigI d3) :
    Ev Z (tCall (spOf G_is_barrier) [] E (tCons ta (tCons tb (tCons tc tNil)))) σ H (IsV (.bl (barB L p d1 d2 d3))) :=
  ev_call (ea_cons h1 (ea_cons h2 (ea_cons h3 ea_nil))) fun H1 e => ⟨v, vp, vv, L, p, d0, d1, d2, d3, rfl, hd.mono e, pp.mono e, hL, hl, np, hv.mono e, g1, g2, g3, rfl⟩
end
end
end Hk
/-! ## F15 -/
namespace Hk
open PySem PySem.Spec PyProof.Rows L2
local macro_rules | `(tactic| walk_at "bd") => `(tactic| first
  | assumption
  | exact (show B 64 _ from by unfold B; decide)
  | (refine' B.mul ?b1 ?b2; (case b1 => walk_at "bd"); (case b2 => walk_at "bd"))
  | (refine' B.sub ?b1 ?b2; (case b1 => walk_at "bd"); (case b2 => walk_at "bd"))
  | (refine' B.add ?b1 ?b2; (case b1 => walk_at "bd"); (case b2 => walk_at "bd"))
  | (refine' B.neg ?b1; (case b1 => walk_at "bd")))
local macro_rules | `(tactic| walk_at "da") => `(tactic| first
  | assumption
  | exact Da.int _
  | exact Da.non
  | exact Da.bl _
  | exact Da.str _
  | ((with_reducible refine' P3.mono (by assumption) ?d1); (case d1 => walk_at "da"))
  | ((with_reducible refine' Ra.mono (by assumption) ?d1); (case d1 => walk_at "da"))
  | ((with_reducible refine' TuR.mono (by assumption) ?d1); (case d1 => walk_at "da"))
  | ((with_reducible refine' LiR.mono (by assumption) ?d1); (case d1 => walk_at "da"))
  | ((with_reducible refine' Da.mono (by assumption) ?d1); (case d1 => walk_at "da")))
local macro_rules | `(tactic| walk_at "xt") => `(tactic| first
  | assumption
  | (refine' Xt.trans ?x1 (by assumption); (case x1 => walk_at "xt")))
local macro_rules | `(tactic| walk_at "w") => `(tactic| first
  | assumption
  | exact Xt.w2 (by assumption)
  | exact Xt.w1 (by assumption))
local macro_rules | `(tactic| walk_at "side") => `(tactic| first
  | assumption
  | (refine' B.cmul ?b1 ?b2 ?b3; (case b1 => walk_at "bd"); (case b2 => walk_at "bd"); (case b3 => first | decide | omega))
  | (refine' B.cdiv ?b1 ?b2 ?b3; (case b1 => assumption); (case b2 => walk_at "bd"); (case b3 => first | decide | omega)))
local macro_rules | `(tactic| walk_at "ea") => `(tactic| first
  | with_reducible exact ea_nil
  | ((with_reducible refine' ea_cons ?p1 ?p2); (case p1 => walk_at "ev"); (case p2 => walk_at "ea")))
local macro_rules | `(tactic| walk_at "et") => `(tactic| first
  | ((with_reducible refine' et_and ?p1 ?p2); (case p1 => walk_at "et"); (case p2 => intro _; walk_at "et"))
  | ((with_reducible refine' et_or ?p1 ?p2); (case p1 => walk_at "et"); (case p2 => intro _; walk_at "et"))
  | ((with_reducible refine' et_not ?p1); (case p1 => walk_at "et"))
  | ((with_reducible refine' et_test ?p1); (case p1 => walk_at "ev"))
  | ((with_reducible refine' et_B ?p1); (case p1 => walk_at "ev")))
local macro_rules | `(tactic| walk_at "ev") => `(tactic| first
  | with_reducible exact ev_c
  | ((with_reducible refine' ev_var ?v1); (case v1 => exact rfl))
  | ((with_reducible refine' ev_px ?p1 ?p2 ?p3); (case p1 => walk_at "ev"); (case p2 => walk_at "da"); (case p3 => with_reducible exact ev_c))
  | ((with_reducible refine' ev_py ?p1 ?p2 ?p3); (case p1 => walk_at "ev"); (case p2 => walk_at "da"); (case p3 => with_reducible exact ev_c))
  | ((with_reducible refine' ev_pw ?p1 ?p2 ?p3); (case p1 => walk_at "ev"); (case p2 => walk_at "da"); (case p3 => with_reducible exact ev_c))
  | ((with_reducible refine' ev_ixT ?p1 ?p2 ?p3 ?p4); (case p1 => walk_at "ev"); (case p2 => walk_at "da"); (case p3 => walk_at "ev"); (case p4 => first | exact rfl | assumption))
  | ((with_reducible refine' ev_ixL ?p1 ?p2 ?p3 ?p4); (case p1 => walk_at "ev"); (case p2 => walk_at "da"); (case p3 => walk_at "ev"); (case p4 => first | exact rfl | assumption))
  | ((with_reducible refine' ev_i0 ?p1 ?p2); (case p1 => walk_at "ev"); (case p2 => walk_at "ev"))
  | ((with_reducible refine' ev_iC ?p1 ?p2 ?p3); (case p1 => walk_at "ev"); (case p2 => walk_at "ev"); (case p3 => walk_at "side"))
  | ((with_reducible refine' ev_neg ?p1); (case p1 => walk_at "ev"))
  | ((with_reducible refine' ev_eq ?p1 ?p2 ?p3); (case p1 => walk_at "ev"); (case p2 => walk_at "ev"); (case p3 => exact rfl))
  | ((with_reducible refine' ev_ne ?p1 ?p2 ?p3); (case p1 => walk_at "ev"); (case p2 => walk_at "ev"); (case p3 => exact rfl))
  | ((with_reducible refine' ev_andV ?p1 ?p2); (case p1 => walk_at "ev"); (case p2 => intro _; walk_at "ev"))
  | ((with_reducible refine' ev_orV ?p1 ?p2); (case p1 => walk_at "ev"); (case p2 => intro _; walk_at "ev"))
  | ((with_reducible refine' ev_notV ?p1); (case p1 => walk_at "ev"))
  | ((with_reducible refine' ev_subB ?p1 ?p2); (case p1 => walk_at "ev"); (case p2 => walk_at "ev"))
  | ((with_reducible refine' ev_chI ?p1 ?p2 ?p3); (case p1 => walk_at "ev"); (case p2 => walk_at "ev"); (case p3 => walk_at "ev"))
  | ((with_reducible refine' ev_isInt ?p1 ?p2); (case p1 => walk_at "ev"); (case p2 => walk_at "da"))
  | ((with_reducible refine' ev_isBool ?p1 ?p2); (case p1 => walk_at "ev"); (case p2 => walk_at "da"))
  | ((with_reducible refine' ev_isStr ?p1 ?p2); (case p1 => walk_at "ev"); (case p2 => walk_at "da"))
  | ((with_reducible refine' ev_isTup ?p1 ?p2); (case p1 => walk_at "ev"); (case p2 => walk_at "da"))
  | ((with_reducible refine' ev_isLst ?p1 ?p2); (case p1 => walk_at "ev"); (case p2 => walk_at "da"))
  | ((with_reducible refine' ev_isTL ?p1 ?p2); (case p1 => walk_at "ev"); (case p2 => walk_at "da"))
  | ((with_reducible refine' ev_lenT ?p1 ?p2); (case p1 => walk_at "ev"); (case p2 => walk_at "da"))
  | ((with_reducible refine' ev_lenL ?p1 ?p2); (case p1 => walk_at "ev"); (case p2 => walk_at "da"))
  | ((with_reducible refine' ev_abs ?p1); (case p1 => walk_at "ev"))
  | ((with_reducible refine' ev_min2 ?p1 ?p2); (case p1 => walk_at "ev"); (case p2 => walk_at "ev"))
  | ((with_reducible refine' ev_int1 ?p1); (case p1 => walk_at "ev"))
  | ((with_reducible refine' ev_isN ?p1); (case p1 => walk_at "ev"))
  | ((with_reducible refine' ev_notN ?p1); (case p1 => walk_at "ev"))
  | ((with_reducible refine' ev_sign ?p1); (case p1 => walk_at "ev"))
  | ((with_reducible refine' ev_gcd ?p1 ?p2); (case p1 => walk_at "ev"); (case p2 => walk_at "ev"))
  | ((with_reducible refine' ev_is_in ?p1 ?p2 ?p3 ?p4); (case p1 => walk_at "ev"); (case p2 => walk_at "da"); (case p3 => walk_at "ev"); (case p4 => walk_at "ev"))
  | ((with_reducible refine' ev_doubled ?p1 ?p2 ?p3 ?p4 ?p5 ?p6 ?p7 ?p8 ?p9); (case p1 => walk_at "ev"); (case p2 => walk_at "ev"); (case p3 => walk_at "ev"); (case p4 => walk_at "da"); (case p5 => walk_at "da"); (case p6 => walk_at "da"); (case p7 => assumption); (case p8 => assumption); (case p9 => assumption))
  | ((with_reducible refine' ev_order_of ?p1 ?p2 ?p3 ?p4 ?p5 ?p6); (case p1 => walk_at "ev"); (case p2 => walk_at "ev"); (case p3 => walk_at "da"); (case p4 => walk_at "da"); (case p5 => assumption); (case p6 => assumption))
  | ((with_reducible refine' ev_turn_of ?p1 ?p2 ?p3 ?p4 ?p5 ?p6 ?p7 ?p8 ?p9); (case p1 => walk_at "ev"); (case p2 => walk_at "ev"); (case p3 => walk_at "ev"); (case p4 => walk_at "da"); (case p5 => walk_at "da"); (case p6 => walk_at "da"); (case p7 => assumption); (case p8 => assumption); (case p9 => assumption))
  | ((with_reducible refine' ev_is_between ?p1 ?p2 ?p3 ?p4 ?p5 ?p6 ?p7 ?p8 ?p9); (case p1 => walk_at "ev"); (case p2 => walk_at "ev"); (case p3 => walk_at "ev"); (case p4 => walk_at "da"); (case p5 => walk_at "da"); (case p6 => walk_at "da"); (case p7 => assumption); (case p8 => assumption); (case p9 => assumption)))
section
variable {P : Program} {w : World} {K : PySem.W.Frag} {mg : Str → Option Value} {base : Heap}
section
variable {Z : Wd} {σ : L2.St} {H : Hp} {ta tb te : TE} {D : Ends} {tu tz : TS} {g : TG}
/-- for .. in zip(t, u), tuples of one length -/
theorem q_zipT {vx vy : V} {xs ys : List V} {ta' : TA} (hw : Z.W H) (h : EvA Z ta' σ H (fun us _ => us = [vx, vy])) (hx : TuR Z xs vx H) (hy : TuR Z ys vy H) (hl : xs.length = ys.length) (Pv : Nat → L2.St → Hp → Prop) (h0 : ∀ H1, Xt Z H H1 → Pv 0 σ H1) (hq : ∀ i σ' H', Pv i σ' H' → Z.W H' ∧ TuR Z xs vx H' ∧ TuR Z ys vy H')
    (hs : ∀ (i : Nat) (x y v : V) σ' H' H2, xs[i]? = some x → ys[i]? = some y → Pv i σ' H' → Xt Z H' H2 → TuR Z [x, y] v H2 → g v σ' H2 fun σ2 H2 => tu { D with nx := Pv (i + 1), ct := Pv (i + 1), bk := tz D } σ2 H2) (hd : ∀ σ' H', Pv xs.length σ' H' → tz D σ' H') : tSeq (tFor (RZ.iZipA K ta') g tu) tz D σ H :=
  h H (.refl hw) _ fun us H1 e hu => by
    obtain ⟨a, rfl, a1, a2⟩ := hx
    obtain ⟨b, rfl, b1, b2⟩ := hy
    have key : ∀ {H'} {c : Addr} {zs}, TuR Z zs (.ref c) H' → SqT K H' c zs := fun h => by
      obtain ⟨d, e, h, _⟩ := h
      cases e
      exact .inl h.h
    refine ⟨a, b, xs, ys, hu, .inr ⟨.inl (e.rd a2 a1).h, .inl (e.rd b2 b1).h, ?_⟩⟩
    refine RZ.for_zipT (D := { D with nx := tz D }) hl Pv (h0 H1 e) (fun i σ' H' p => ⟨key (hq i σ' H' p).2.1, key (hq i σ' H' p).2.2⟩) (fun i x y t σ' H' hx hy p ht => ?_) hd
    have w := (hq i σ' H' p).1
    exact hs i x y (.ref t) σ' H' _ hx hy p (.new w ht) ⟨t, rfl, ⟨.inl upd_same⟩, nS w ht⟩
end
theorem sorted_ext : ∀ {a b : List Int}, a.Pairwise (· < ·) → b.Pairwise (· < ·) → (∀ k, k ∈ a ↔ k ∈ b) → a = b
  | [], [], _, _, _ => rfl
  | [], y :: s, _, _, h => by have := (h y).mpr (by simp); cases this
  | x :: r, [], _, _, h => by have := (h x).mp (by simp); cases this
  | x :: r, y :: s, h1, h2, h => by
    obtain ⟨a1, a2⟩ := List.pairwise_cons.mp h1
    obtain ⟨b1, b2⟩ := List.pairwise_cons.mp h2
    have e : x = y := by
      have k1 := (h x).mp (by simp)
      have k2 := (h y).mpr (by simp)
      rcases List.mem_cons.mp k1 with e | k1
      · exact e
      · rcases List.mem_cons.mp k2 with e | k2
        · exact e.symm
        · have := a1 y k2
          have := b1 x k1
          omega
    subst e
    rw [sorted_ext a2 b2 fun k => ?_]
    constructor
    · intro hk
      rcases List.mem_cons.mp ((h k).mp (List.mem_cons_of_mem _ hk)) with e | hk2
      · have := a1 k hk; omega
      · exact hk2
    · intro hk
      rcases List.mem_cons.mp ((h k).mpr (List.mem_cons_of_mem _ hk)) with e | hk2
      · have := b1 k hk; omega
      · exact hk2
section
variable {Z : Wd} {σ : L2.St} {H : Hp} {ta tb te : TE} {w : World}
/-- sorted(set(t)), t a tuple of ints -/
theorem ev_sortedSet {ns : List Int} (h : Ev Z te σ H (DaR Z (.tuple (ns.map .int)))) (hn : ns.length < 64) : Ev Z (tCB (rSortedSet w) (tCons (tCB (rSetTI w K) (tCons te tNil)) tNil)) σ H (fun x H1 => ∃ ns' : List Int, ns'.Pairwise (· < ·) ∧ (∀ k, k ∈ ns' ↔ k ∈ ns) ∧ Da Z H1 x (.list (ns'.map .int))) := fun H1 e Q q =>
  h H1 e _ fun v H2 e2 hv => by
    cases hv with
    | tup k1 k2 k3 =>
      rw [ints_daL k3] at k1
      refine ⟨_, ns, rfl, .inl k1.h, by omega, fun a c ha hc => ⟨a, fun j => decide (j ∈ ns), c, rfl, upd_same, by omega, fun ns' p h1 h2 h3 hp => ?_⟩⟩
      have x1 : Xt Z H2 (upd H2 a (SetO w a (fun j => decide (j ∈ ns)) c)) := .new e2.w2 ha
      have x2 := x1.trans (.new (o := .lst (ns'.map V.int)) x1.w2 hp)
      exact q _ _ (e2.trans x2) ⟨ns', h1, fun k => by rw [h2 k]; simp, .lst upd_same (nS x1.w2 hp) (daL_ints ns')⟩
theorem eqv_ints : ∀ (a b : List Int), PyData.eqv (.list (a.map .int)) (.list (b.map .int)) = decide (a = b)
  | [], [] => by simp [PyData.eqv, PyData.eqvAll]
  | [], _ :: _ => by simp [PyData.eqv, PyData.eqvAll]
  | _ :: _, [] => by simp [PyData.eqv, PyData.eqvAll]
  | x :: r, y :: s => by
    have ih := eqv_ints r s
    simp only [PyData.eqv, PyData.eqvAll, List.map_cons] at ih ⊢
    rw [ih, Bool.eq_iff_iff]
    simp
theorem sm_ints (ns : List Int) : sm 1 (.list (ns.map .int)) := sm_lst fun d hd => by
  obtain ⟨i, _, rfl⟩ := List.mem_map.mp hd
  exact sm_int _ _
theorem nod_ints (ns : List Int) : nod (.list (ns.map .int)) = true := by
  rw [nod]
  exact nodL_all fun d hd => by
    obtain ⟨i, _, rfl⟩ := List.mem_map.mp hd
    simp [nod]
/-- list(t) != sorted(set(t)) -/
theorem ev_unsorted {ns : List Int} (h1 : Ev Z ta σ H (DaR Z (.tuple (ns.map .int)))) (h2 : Ev Z tb σ H (DaR Z (.tuple (ns.map .int)))) (hn : ns.length < 64) :
    Ev Z (tOp (rNeD K) (tCB (rListOf K) (tCons ta tNil)) (tCB (rSortedSet w) (tCons (tCB (rSetTI w K) (tCons tb tNil)) tNil))) σ H (IsV (.bl (!decide (ns.Pairwise (· < ·))))) :=
  ev_opX (Rb := fun _ x H1 => ∃ ns' : List Int, ns'.Pairwise (· < ·) ∧ (∀ k, k ∈ ns' ↔ k ∈ ns) ∧ Da Z H1 x (.list (ns'.map .int))) (ev_listOfD h1) (fun _ _ e1 _ => Ev.mono e1 (ev_sortedSet h2 hn)) fun x y H1 H2 e1 e2 hx ⟨ns', k1, k2, hy⟩ Q q => by
    refine ⟨_, _, (hx.mono e2).dp (nod_ints ns), hy.dp (nod_ints ns'), (sm_ints _).sh (by decide), (sm_ints _).sh (by decide), q _ H2 (.refl e2.w2) ?_⟩
    show V.bl _ = V.bl _
    rw [eqv_ints]
    congr 2
    refine decide_eq_decide.mpr ⟨fun e => e ▸ k1, fun h => sorted_ext h k1 fun k => (k2 k).symm⟩
end
def intOf : PyData → Int
  | .int i => i
  | _ => 0
def ratOf : PyData → Rat
  | .tuple [.int n, .int m] => Rat.divInt n m
  | _ => 0
def posW (d : PyData) : Bool := match d with
  | .tuple [.int n, .int m] => decide (0 < m) && decide (gcdI n m = 1) && decide (0 < n)
  | _ => false
def sumQ (L : List Pt) (p : Pt) (js : List Nat) (qs : List Rat) : Bool := decide (tsum qs = 1) && (decide (dsum (fun j => rx (gt L j)) (qs.zip js) = rx p) && decide (dsum (fun j => ry (gt L j)) (qs.zip js) = ry p))
def inC (n : Nat) (d : PyData) : Bool := isIn d 0 ((n : Int) - 1)
def mixC (L : List Pt) (p : Pt) (cs ws : List PyData) : Bool := decide (cs.length = ws.length) && (decide (1 ≤ cs.length ∧ cs.length ≤ 3) && (cs.all (inC L.length) && (decide ((cs.map intOf).Pairwise (· < ·)) && (ws.all posW && sumQ L p (cs.map fun d => (intOf d).toNat) (ws.map ratOf)))))
def mixB (L : List Pt) (p : Pt) (d1 d2 : PyData) : Bool := match d1, d2 with
  | .tuple cs, .tuple ws => mixC L p cs ws
  | _, _ => false
structure FitJ (c : PyData) : Prop where
  l : noL c = true
  d : nod c = true
  s : sm 3 c
  b : ∀ n m, c = .tuple [.int n, .int m] → B 1000 n ∧ B 1000 m
def FitT (d : PyData) : Prop := ∀ cs, d = .tuple cs → ∀ c ∈ cs, FitJ c
/-- places and weights decoded -/
theorem inC_dec {n : Nat} : ∀ {cs : List PyData}, (∀ c ∈ cs, inC n c = true) → ∃ js : List Nat, cs = iD js ∧ (∀ j ∈ js, j < n) ∧ cs.map intOf = (js.map fun (j : Nat) => (j : Int)) ∧ (cs.map fun d => (intOf d).toNat) = js
  | [], _ => ⟨[], rfl, (fun j h => by cases h), rfl, rfl⟩
  | c :: cs, h => by
    obtain ⟨js, rfl, h2, h3, h4⟩ := inC_dec (cs := cs) fun c hc => h c (List.mem_cons_of_mem _ hc)
    have hc := h c (by simp)
    unfold inC isIn at hc
    split at hc
    · rename_i i
      simp only [Bool.and_eq_true, decide_eq_true_iff] at hc
      refine ⟨i.toNat :: js, ?_, fun j hj => ?_, ?_, ?_⟩
      · show PyData.int i :: iD js = PyData.int (i.toNat : Int) :: iD js
        rw [Int.toNat_of_nonneg hc.1]
      · rcases List.mem_cons.mp hj with rfl | hj
        · omega
        · exact h2 j hj
      · rw [List.map_cons, h3, List.map_cons]
        show i :: _ = (i.toNat : Int) :: _
        rw [Int.toNat_of_nonneg hc.1]
      · rw [List.map_cons, h4]
        rfl
    · cases hc
theorem posW_dec : ∀ {ws : List PyData}, (∀ c ∈ ws, posW c = true) → (∀ c ∈ ws, FitJ c) → ∃ qs : List Rat, ws = qs.map raD ∧ ws.map ratOf = qs ∧ (∀ q ∈ qs, 0 < q ∧ RB 1000 q)
  | [], _, _ => ⟨[], rfl, rfl, (fun j h => by cases h)⟩
  | c :: cs, h, hf => by
    obtain ⟨js, rfl, h3, h4⟩ := posW_dec (ws := cs) (fun c hc => h c (List.mem_cons_of_mem _ hc)) fun c hc => hf c (List.mem_cons_of_mem _ hc)
    have hc := h c (by simp)
    have hfc := hf c (by simp)
    unfold posW at hc
    split at hc
    · rename_i n m
      simp only [Bool.and_eq_true, decide_eq_true_iff] at hc
      obtain ⟨⟨h1, h2⟩, h5⟩ := hc
      obtain ⟨e1, e2⟩ := own_ratio h1 h2
      obtain ⟨b1, b2⟩ := hfc.b n m rfl
      refine ⟨Rat.divInt n m :: js, ?_, ?_, fun q hq => ?_⟩
      · rw [List.map_cons]
        congr 1
        unfold raD
        rw [e1, e2]
      · rw [List.map_cons, h3]
        rfl
      · rcases List.mem_cons.mp hq with rfl | hq
        · exact ⟨rat_pos (Int.mul_pos h5 h1), RB.mk2 (by omega) b1 b2⟩
        · exact h4 q hq
    · cases hc
theorem tsum_snoc (l : List Rat) (w : Rat) : tsum (l ++ [w]) = tsum l + w := by
  unfold tsum
  rw [List.foldl_append]
  rfl
theorem dsum_snoc (f : Nat → Rat) (l : List (Rat × Nat)) (e : Rat × Nat) : dsum f (l ++ [e]) = dsum f l + e.1 * f e.2 := by
  unfold dsum
  rw [List.foldl_append]
  rfl
theorem eqv_ra2 (a b c d : Rat) : PyData.eqv (.list [raD a, raD b]) (.list [raD c, raD d]) = (decide (a = c) && decide (b = d)) := by
  have e : PyData.eqv (.list [raD a, raD b]) (.list [raD c, raD d]) = (PyData.eqv (raD a) (raD c) && (PyData.eqv (raD b) (raD d) && true)) := by simp only [PyData.eqv, PyData.eqvAll]
  rw [e, raD_eqv, raD_eqv, Bool.and_true]
theorem sm_ra (q : Rat) : sm 1 (raD q) := sm_tup fun d hd => by
  simp only [List.mem_cons, List.not_mem_nil, or_false] at hd
  rcases hd with rfl | rfl <;> exact sm_int _ _
theorem sm_ra2 (a b : Rat) : sm 2 (.list [raD a, raD b]) := sm_lst fun d hd => by
  simp only [List.mem_cons, List.not_mem_nil, or_false] at hd
  rcases hd with rfl | rfl <;> exact sm_ra _
theorem nod_ra2 (a b : Rat) : nod (.list [raD a, raD b]) = true := by simp [nod, nodL, raD_nod]
end
end Hk
/-! ## F16 -/
namespace Hk
open PySem PySem.Spec PyProof.Rows L2
local macro_rules | `(tactic| walk_at "bd") => `(tactic| first
  | assumption
  | exact (show B 64 _ from by unfold B; decide)
  | (refine' B.mul ?b1 ?b2; (case b1 => walk_at "bd"); (case b2 => walk_at "bd"))
  | (refine' B.sub ?b1 ?b2; (case b1 => walk_at "bd"); (case b2 => walk_at "bd"))
  | (refine' B.add ?b1 ?b2; (case b1 => walk_at "bd"); (case b2 => walk_at "bd"))
  | (refine' B.neg ?b1; (case b1 => walk_at "bd")))
local macro_rules | `(tactic| walk_at "da") => `(tactic| first
  | assumption
  | exact Da.int _
  | exact Da.non
  | exact Da.bl _
  | exact Da.str _
  | ((with_reducible refine' P3.mono (by assumption) ?d1); (case d1 => walk_at "da"))
  | ((with_reducible refine' Ra.mono (by assumption) ?d1); (case d1 => walk_at "da"))
  | ((with_reducible refine' TuR.mono (by assumption) ?d1); (case d1 => walk_at "da"))
  | ((with_reducible refine' LiR.mono (by assumption) ?d1); (case d1 => walk_at "da"))
  | ((with_reducible refine' Da.mono (by assumption) ?d1); (case d1 => walk_at "da")))
local macro_rules | `(tactic| walk_at "xt") => `(tactic| first
  | assumption
  | (refine' Xt.trans ?x1 (by assumption); (case x1 => walk_at "xt")))
local macro_rules | `(tactic| walk_at "w") => `(tactic| first
  | assumption
  | exact Xt.w2 (by assumption)
  | exact Xt.w1 (by assumption))
local macro_rules | `(tactic| walk_at "side") => `(tactic| first
  | assumption
  | (refine' B.cmul ?b1 ?b2 ?b3; (case b1 => walk_at "bd"); (case b2 => walk_at "bd"); (case b3 => first | decide | omega))
  | (refine' B.cdiv ?b1 ?b2 ?b3; (case b1 => assumption); (case b2 => walk_at "bd"); (case b3 => first | decide | omega)))
local macro_rules | `(tactic| walk_at "ea") => `(tactic| first
  | with_reducible exact ea_nil
  | ((with_reducible refine' ea_cons ?p1 ?p2); (case p1 => walk_at "ev"); (case p2 => walk_at "ea")))
local macro_rules | `(tactic| walk_at "et") => `(tactic| first
  | ((with_reducible refine' et_and ?p1 ?p2); (case p1 => walk_at "et"); (case p2 => intro _; walk_at "et"))
  | ((with_reducible refine' et_or ?p1 ?p2); (case p1 => walk_at "et"); (case p2 => intro _; walk_at "et"))
  | ((with_reducible refine' et_not ?p1); (case p1 => walk_at "et"))
  | ((with_reducible refine' et_test ?p1); (case p1 => walk_at "ev"))
  | ((with_reducible refine' et_B ?p1); (case p1 => walk_at "ev")))
local macro_rules | `(tactic| walk_at "ev") => `(tactic| first
  | with_reducible exact ev_c
  | ((with_reducible refine' ev_var ?v1); (case v1 => exact rfl))
  | ((with_reducible refine' ev_px ?p1 ?p2 ?p3); (case p1 => walk_at "ev"); (case p2 => walk_at "da"); (case p3 => with_reducible exact ev_c))
  | ((with_reducible refine' ev_py ?p1 ?p2 ?p3); (case p1 => walk_at "ev"); (case p2 => walk_at "da"); (case p3 => with_reducible exact ev_c))
  | ((with_reducible refine' ev_pw ?p1 ?p2 ?p3); (case p1 => walk_at "ev"); (case p2 => walk_at "da"); (case p3 => with_reducible exact ev_c))
  | ((with_reducible refine' ev_ixT ?p1 ?p2 ?p3 ?p4); (case p1 => walk_at "ev"); (case p2 => walk_at "da"); (case p3 => walk_at "ev"); (case p4 => first | exact rfl | assumption))
  | ((with_reducible refine' ev_ixL ?p1 ?p2 ?p3 ?p4); (case p1 => walk_at "ev"); (case p2 => walk_at "da"); (case p3 => walk_at "ev"); (case p4 => first | exact rfl | assumption))
  | ((with_reducible refine' ev_i0 ?p1 ?p2); (case p1 => walk_at "ev"); (case p2 => walk_at "ev"))
  | ((with_reducible refine' ev_iC ?p1 ?p2 ?p3); (case p1 => walk_at "ev"); (case p2 => walk_at "ev"); (case p3 => walk_at "side"))
  | ((with_reducible refine' ev_neg ?p1); (case p1 => walk_at "ev"))
  | ((with_reducible refine' ev_eq ?p1 ?p2 ?p3); (case p1 => walk_at "ev"); (case p2 => walk_at "ev"); (case p3 => exact rfl))
  | ((with_reducible refine' ev_ne ?p1 ?p2 ?p3); (case p1 => walk_at "ev"); (case p2 => walk_at "ev"); (case p3 => exact rfl))
  | ((with_reducible refine' ev_andV ?p1 ?p2); (case p1 => walk_at "ev"); (case p2 => intro _; walk_at "ev"))
  | ((with_reducible refine' ev_orV ?p1 ?p2); (case p1 => walk_at "ev"); (case p2 => intro _; walk_at "ev"))
  | ((with_reducible refine' ev_notV ?p1); (case p1 => walk_at "ev"))
  | ((with_reducible refine' ev_subB ?p1 ?p2); (case p1 => walk_at "ev"); (case p2 => walk_at "ev"))
  | ((with_reducible refine' ev_chI ?p1 ?p2 ?p3); (case p1 => walk_at "ev"); (case p2 => walk_at "ev"); (case p3 => walk_at "ev"))
  | ((with_reducible refine' ev_isInt ?p1 ?p2); (case p1 => walk_at "ev"); (case p2 => walk_at "da"))
  | ((with_reducible refine' ev_isBool ?p1 ?p2); (case p1 => walk_at "ev"); (case p2 => walk_at "da"))
  | ((with_reducible refine' ev_isStr ?p1 ?p2); (case p1 => walk_at "ev"); (case p2 => walk_at "da"))
  | ((with_reducible refine' ev_isTup ?p1 ?p2); (case p1 => walk_at "ev"); (case p2 => walk_at "da"))
  | ((with_reducible refine' ev_isLst ?p1 ?p2); (case p1 => walk_at "ev"); (case p2 => walk_at "da"))
  | ((with_reducible refine' ev_isTL ?p1 ?p2); (case p1 => walk_at "ev"); (case p2 => walk_at "da"))
  | ((with_reducible refine' ev_lenT ?p1 ?p2); (case p1 => walk_at "ev"); (case p2 => walk_at "da"))
  | ((with_reducible refine' ev_lenL ?p1 ?p2); (case p1 => walk_at "ev"); (case p2 => walk_at "da"))
  | ((with_reducible refine' ev_abs ?p1); (case p1 => walk_at "ev"))
  | ((with_reducible refine' ev_min2 ?p1 ?p2); (case p1 => walk_at "ev"); (case p2 => walk_at "ev"))
  | ((with_reducible refine' ev_int1 ?p1); (case p1 => walk_at "ev"))
  | ((with_reducible refine' ev_isN ?p1); (case p1 => walk_at "ev"))
  | ((with_reducible refine' ev_notN ?p1); (case p1 => walk_at "ev"))
  | ((with_reducible refine' ev_sign ?p1); (case p1 => walk_at "ev"))
  | ((with_reducible refine' ev_gcd ?p1 ?p2); (case p1 => walk_at "ev"); (case p2 => walk_at "ev"))
  | ((with_reducible refine' ev_is_in ?p1 ?p2 ?p3 ?p4); (case p1 => walk_at "ev"); (case p2 => walk_at "da"); (case p3 => walk_at "ev"); (case p4 => walk_at "ev"))
  | ((with_reducible refine' ev_doubled ?p1 ?p2 ?p3 ?p4 ?p5 ?p6 ?p7 ?p8 ?p9); (case p1 => walk_at "ev"); (case p2 => walk_at "ev"); (case p3 => walk_at "ev"); (case p4 => walk_at "da"); (case p5 => walk_at "da"); (case p6 => walk_at "da"); (case p7 => assumption); (case p8 => assumption); (case p9 => assumption))
  | ((with_reducible refine' ev_order_of ?p1 ?p2 ?p3 ?p4 ?p5 ?p6); (case p1 => walk_at "ev"); (case p2 => walk_at "ev"); (case p3 => walk_at "da"); (case p4 => walk_at "da"); (case p5 => assumption); (case p6 => assumption))
  | ((with_reducible refine' ev_turn_of ?p1 ?p2 ?p3 ?p4 ?p5 ?p6 ?p7 ?p8 ?p9); (case p1 => walk_at "ev"); (case p2 => walk_at "ev"); (case p3 => walk_at "ev"); (case p4 => walk_at "da"); (case p5 => walk_at "da"); (case p6 => walk_at "da"); (case p7 => assumption); (case p8 => assumption); (case p9 => assumption))
  | ((with_reducible refine' ev_is_between ?p1 ?p2 ?p3 ?p4 ?p5 ?p6 ?p7 ?p8 ?p9); (case p1 => walk_at "ev"); (case p2 => walk_at "ev"); (case p3 => walk_at "ev"); (case p4 => walk_at "da"); (case p5 => walk_at "da"); (case p6 => walk_at "da"); (case p7 => assumption); (case p8 => assumption); (case p9 => assumption)))
section
variable {P : Program} {w : World} {K : PySem.W.Frag} {mg : Str → Option Value} {base : Heap}
theorem eqv_nil' (ds : List PyData) : PyData.eqv (.list (ds.map fun d => d)) (.list []) = decide (ds = []) := by
  rw [List.map_id' ds]
  exact eqv_nil ds
theorem filter_nil_all {α : Type} (L : List α) (q : α → Bool) : decide ((L.filter fun a => !q a) = []) = L.all q := by
  rw [Bool.eq_iff_iff, decide_eq_true_iff, List.filter_eq_nil_iff, List.all_eq_true]
  exact ⟨fun h a ha => by have := h a ha; simpa using this, fun h a ha => by simpa using h a ha⟩
theorem posW_rat {d : PyData} (h : isRat d = false) : posW d = false := by
  unfold posW
  split
  · rename_i n m
    have e : isRat (.tuple [.int n, .int m]) = (decide (0 < m) && decide (gcdI n m = 1)) := rfl
    rw [← e, h]
    rfl
  · rfl
section
variable {Z : Wd} {σ : L2.St} {H : Hp} {ta tb tc : TE} {E : XK}
theorem ev_plusR {p q : Rat} (h1 : Ev Z ta σ H (Ra Z p)) (h2 : Ev Z tb σ H (Ra Z q)) (b1 : RB 4400 p) (b2 : RB 4400 q) : Ev Z (tCall (spOf G_plus) [] E (tCons ta (tCons tb tNil))) σ H (Ra Z (p + q)) :=
  ev_callX (RA := fun us H1 => ∃ v1 v2, us = [v1, v2] ∧ Ra Z p v1 H1 ∧ Ra Z q v2 H1) (ea_consX h1 fun v1 H1 e1 r1 => ea_consX (h2.mono e1) fun v2 H2 e2 r2 => ea_nilX fun H3 e3 => ⟨v1, v2, rfl, r1.mono (e2.trans e3), r2.mono e3⟩) fun us H1 e ⟨v1, v2, hu, r1, r2⟩ => ⟨v1, v2, p, q, hu, r1, r2, b1, b2, rfl⟩
theorem ev_timesR {p q : Rat} (h1 : Ev Z ta σ H (Ra Z p)) (h2 : Ev Z tb σ H (Ra Z q)) (b1 : RB 4400 p) (b2 : RB 4400 q) : Ev Z (tCall (spOf G_times) [] E (tCons ta (tCons tb tNil))) σ H (Ra Z (p * q)) :=
  ev_callX (RA := fun us H1 => ∃ v1 v2, us = [v1, v2] ∧ Ra Z p v1 H1 ∧ Ra Z q v2 H1) (ea_consX h1 fun v1 H1 e1 r1 => ea_consX (h2.mono e1) fun v2 H2 e2 r2 => ea_nilX fun H3 e3 => ⟨v1, v2, rfl, r1.mono (e2.trans e3), r2.mono e3⟩) fun us H1 e ⟨v1, v2, hu, r1, r2⟩ => ⟨v1, v2, p, q, hu, r1, r2, b1, b2, rfl⟩
theorem ev_raV {v : V} {q : Rat} (h : Ev Z ta σ H (IsV v)) (hr : Ra Z q v H) : Ev Z ta σ H (Ra Z q) := h.imp fun w H1 e hw => by rw [hw]; exact hr.mono e
end
def G_is_mixture : Gv := fun Z vs H R => ∃ v vp vv L p d0 d1 d2, vs = [v, vp, vv] ∧ Da Z H v (.tuple (L.map ptD)) ∧ P3 Z vp p H ∧ (∀ q ∈ L, Nm q) ∧ 1 ≤ L.length ∧ L.length ≤ 40 ∧ Nm p ∧ Da Z H vv (.tuple [d0, d1, d2]) ∧ FitT d1 ∧ FitT d2 ∧ R = IsV (.bl (mixB L p d1 d2))
theorem sm_filter {cs : List PyData} (q : PyData → Bool) (h : ∀ c ∈ cs, FitJ c) : sm 4 (.list ((cs.filter q).map fun d => d)) ∧ nod (.list ((cs.filter q).map fun d => d)) = true := by
  rw [List.map_id']
  constructor
  · exact sm_lst fun d hd => (h d (List.mem_filter.mp hd).1).s
  · rw [nod]
    exact nodL_all fun d hd => (h d (List.mem_filter.mp hd).1).d
theorem ok_is_mixture (T : Tx K mg) : FnOk P w K mg base CX0 4 T.f_is_mixture T.d_is_mixture ["points", "p", "value"] (spOf G_is_mixture) := by
  refine T.F_is_mixture.ok sc_is_mixture (fun vs H Q E h => ?_) (fun cdv A outer s H vs Q E hr h => ?_)
  · obtain ⟨Z, R, _, ⟨v, vp, vv, L, p, _, _, _, rfl, _⟩, _⟩ := h
    rfl
  obtain ⟨Z, R, hw, ⟨v, vp, vv, L, p, d0, d1, d2, rfl, hd, pp, hL, l1, l2, np, hv, g1, g2, rfl⟩, hq⟩ := h
  refine ⟨_, (pss_cons (ps_asg (pe_slice sl_tupA (pv 2) (po_some pe_int) po_none) (pg_tup rfl (pgs_cons (pg_name (i := 3) sc_is_mixture.nd rfl (Or.inl rfl)) (pgs_cons (pg_name (i := 4) sc_is_mixture.nd rfl (Or.inl rfl)) pgs_nil))))
  (pss_cons (ps_if (PW.pt (pw_or (pt_not (pt_val (pe_callB call_isi (by rfl) T.z_isinstance (by decide +kernel) (pa_cons (pv 3) (pa_cons (pe_bltn (v := .ty "tuple") (u := .type "tuple") (by rfl) T.z_tuple (by decide +kernel) rfl) pa_nil))))) (pw_or (pt_not (pt_val (pe_callB call_isi (by rfl) T.z_isinstance (by decide +kernel) (pa_cons (pv 4) (pa_cons (pe_bltn (v := .ty "tuple") (u := .type "tuple") (by rfl) T.z_tuple (by decide +kernel) rfl) pa_nil))))) (pw_or1 (pt_cmpR op_ne (pe_callB call_len_seq (by rfl) T.z_len (by decide +kernel) (pa_cons (pv 3) pa_nil)) (pe_callB call_len_seq (by rfl) T.z_len (by decide +kernel) (pa_cons (pv 4) pa_nil)) (nomark _))))))
  (pss_one (ps_ret pe_bl))
  pss_nil)
  (pss_cons (ps_if (PW.pt (pw_or (pt_not (pt_chain op_le op_le pe_int (pe_callB call_len_seq (by rfl) T.z_len (by decide +kernel) (pa_cons (pv 3) pa_nil)) pe_int)) (pw_or1 (pt_cmpR (op_neD hr.units) (pe_lc (own := [("at", 7)]) (g := gName 7) rfl sc_is_mixture.nd (pi_tup (pv 3)) (blkOk_by (own := [("at", 7)]) (N := nm_is_mixture) (sc := defScope s_is_mixture) (by decide +kernel)) (fun _ _ _ _ _ => pg_name (i := 7) sc_is_mixture.nd rfl (Or.inl rfl)) (fun _ _ _ _ _ => pts_one (pt_not (pt_val (pe_call (ok_is_in T) (hr.mono (by decide)) (by rfl) T.g_is_in T.F_is_in.kp T.b_is_in .nil pass0 (pa_cons (pv 7) (pa_cons pe_int (pa_cons (pe_op op_sub (pe_callB (call_lenK (K := K) rfl) (by rfl) T.z_len (by decide +kernel) (pa_cons (pv 0) pa_nil)) pe_int) pa_nil))))))) (fun _ _ _ _ _ => (pv 7))) (pe_lst pa_nil) (nomark _)))))
  (pss_one (ps_ret pe_bl))
  pss_nil)
  (pss_cons (ps_if (PW.pt (pw_or (pt_cmpR (op_neD hr.units) (pe_callTy call_list_of (by rfl) T.z_list (by decide +kernel) (pa_cons (pv 3) pa_nil)) (pe_callB (cr_sortedSet rfl) (by rfl) T.z_sorted (by decide +kernel) (pa_cons (pe_callTy (call_setTI rfl) (by rfl) T.z_set (by decide +kernel) (pa_cons (pv 3) pa_nil)) pa_nil)) (nomark _)) (pw_or1 (pt_cmpR (op_neD hr.units) (pe_lc (own := [("one", 10)]) (g := gName 10) rfl sc_is_mixture.nd (pi_tup (pv 4)) (blkOk_by (own := [("one", 10)]) (N := nm_is_mixture) (sc := defScope s_is_mixture) (by decide +kernel)) (fun _ _ _ _ _ => pg_name (i := 10) sc_is_mixture.nd rfl (Or.inl rfl)) (fun _ _ _ _ _ => pts_one (PW.pt (pw_or (pt_not (pt_val (pe_call (ok_is_ratio T) (hr.mono (by decide)) (by rfl) T.g_is_ratio T.F_is_ratio.kp T.b_is_ratio .nil pass0 (pa_cons (pv 10) pa_nil)))) (pw_or1 (pt_cmpR op_le (pe_ix (ix_tupK (K := K) rfl) (pv 10) pe_int (fun _ _ => rfl)) pe_int (nomark _)))))) (fun _ _ _ _ _ => (pv 10))) (pe_lst pa_nil) (nomark _)))))
  (pss_one (ps_ret pe_bl))
  pss_nil)
  (pss_cons (ps_par (i := 5) (j := 6) rfl sc_is_mixture.nd rfl rfl (by decide) rfl rfl (pa_cons (pe_tup (pa_cons pe_int (pa_cons pe_int pa_nil))) (pa_cons (pe_lst (pa_cons (pe_tup (pa_cons pe_int (pa_cons pe_int pa_nil))) (pa_cons (pe_tup (pa_cons pe_int (pa_cons pe_int pa_nil))) pa_nil))) pa_nil)) (by rfl))
  (pss_cons (ps_for PassesOwn.never rfl (RZ.pi_zipA (by rfl) T.z_zip (pa_cons (pv 3) (pa_cons (pv 4) pa_nil))) (pg_tup rfl (pgs_cons (pg_name (i := 7) sc_is_mixture.nd rfl (Or.inl rfl)) (pgs_cons (pg_name (i := 8) sc_is_mixture.nd rfl (Or.inl rfl)) pgs_nil)))
  (pss_cons (ps_set (i := 5) sc_is_mixture.nd rfl (Or.inl rfl) (pe_call (ok_plus T) (hr.mono (by decide)) (by rfl) T.g_plus T.F_plus.kp T.b_plus .nil pass0 (pa_cons (pv 5) (pa_cons (pv 8) pa_nil))))
    (pss_one (ps_for PassesOwn.never rfl (pi_range1 (by rfl) T.z_range (pa_cons pe_int pa_nil)) (pg_name (i := 9) sc_is_mixture.nd rfl (Or.inl rfl))
    (pss_one (ps_asg (pe_call (ok_plus T) (hr.mono (by decide)) (by rfl) T.g_plus T.F_plus.kp T.b_plus .nil pass0 (pa_cons (pe_ix ix_list (pv 6) (pv 9) (fun _ _ => rfl)) (pa_cons (pe_call (ok_times T) (hr.mono (by decide)) (by rfl) T.g_times T.F_times.kp T.b_times .nil pass0 (pa_cons (pv 8) (pa_cons (pe_call (ok_reduced T) (hr.mono (by decide)) (by rfl) T.g_reduced T.F_reduced.kp T.b_reduced .nil pass0 (pa_cons (pe_ix ix_tup (pe_ix ix_tup (pv 0) (pv 7) (fun _ _ => rfl)) (pv 9) (fun _ _ => rfl)) (pa_cons (pe_ix ix_tup (pe_ix ix_tup (pv 0) (pv 7) (fun _ _ => rfl)) pe_int (fun _ _ => rfl)) pa_nil))) pa_nil))) pa_nil))) (pg_sub (pv 6) (pv 9) set_list)))))))
  (pss_one (ps_ret (pe_and (pe_cmpR (op_eqD hr.units) (pv 5) (pe_tup (pa_cons pe_int (pa_cons pe_int pa_nil))) (nomark _)) (pe_one (pe_cmpR (op_eqD hr.units) (pv 6) (pe_lc (own := [("k", 9)]) (g := gName 9) rfl sc_is_mixture.nd (pi_range1 (by rfl) T.z_range (pa_cons pe_int pa_nil)) (blkOk_by (own := [("k", 9)]) (N := nm_is_mixture) (sc := defScope s_is_mixture) (by decide +kernel)) (fun _ _ _ _ _ => pg_name (i := 9) sc_is_mixture.nd rfl (Or.inl rfl)) (fun _ _ _ _ _ => pts_nil) (fun _ _ _ _ _ => (pe_call (ok_reduced T) (hr.mono (by decide)) (by rfl) T.g_reduced T.F_reduced.kp T.b_reduced .nil pass0 (pa_cons (pe_ix (ix_tupK (K := K) rfl) (pv 1) (pv 9) (fun _ _ => rfl)) (pa_cons (pe_ix (ix_tupK (K := K) rfl) (pv 1) pe_int (fun _ _ => rfl)) pa_nil))))) (nomark _)))))))))))), ?_⟩
  rw [show L2.start nm_is_mixture [v, vp, vv] = [some v, some vp, some vv, none, none, none, none, none, none, none, none] from rfl]
  obtain ⟨xs, hx, hxs⟩ := hd.tupE
  have hlen : xs.length = L.length := by rw [hxs.length, List.length_map]
  obtain ⟨ys, hy, hys⟩ := hv.tupE
  obtain ⟨v0, vc, vw, rfl, y0, y1, y2⟩ := da3 hys
  refine q_asgG (Z := Z) (R := TuR Z [vc, vw]) (by walk_at "w") ?_ fun x H1 e1 r1 => g_tup2 r1 ?_
  · have := ev_slT (K := K) (Z := Z) (σ := [some v, some vp, some vv, none, none, none, none, none, none, none, none]) (lo := some 1) (hi := none) (ev_var (i := 2) rfl) hy (eo_some ev_c) eo_none
    rw [cut_rest] at this
    exact this
  show tSeq _ _ _ [some v, some vp, some vv, some vc, some vw, none, none, none, none, none, none] H1
  have no : ∀ {H5}, Xt Z H H5 → mixB L p d1 d2 = false → Q (.bl false) H5 := fun {H5} e5 h => hq _ _ e5 (by rw [h])
  have y1 := y1.mono e1
  have y2 := y2.mono e1
  by_cases hT : (isT d1 && isT d2) = false
  · refine q_when (Z := Z) (b := true) (by walk_at "w") (et_is (a := !isT d1 || (!isT d2 || false)) (et_or (et_not (et_B (by walk_at "ev"))) fun h1 => et_or (et_not (et_B (by walk_at "ev"))) fun h2 => ?_) ?_) (fun _ H2 e2 => ?_) (fun h => by cases h)
    · exfalso
      simp at h1 h2
      simp [h1, h2] at hT
    · revert hT
      cases isT d1 <;> cases isT d2 <;> simp
    · refine s_ret (Z := Z) (by walk_at "w") (by walk_at "ev") fun w H3 e3 r3 => ?_
      subst r3
      refine no (by walk_at "xt") ?_
      unfold mixB
      split
      · cases hT
      · rfl
  have hT : (isT d1 && isT d2) = true := by simpa using hT
  obtain ⟨cs, rfl⟩ : ∃ cs, d1 = .tuple cs := by
    cases d1 <;> simp [isT] at hT
    exact ⟨_, rfl⟩
  obtain ⟨ws, rfl⟩ : ∃ ws, d2 = .tuple ws := by
    cases d2 <;> simp [isT] at hT
    exact ⟨_, rfl⟩
  have no : ∀ {H5}, Xt Z H H5 → mixC L p cs ws = false → Q (.bl false) H5 := no
  have fc : ∀ c ∈ cs, FitJ c := g1 cs rfl
  have fw : ∀ c ∈ ws, FitJ c := g2 ws rfl
  obtain ⟨us, hu, hus⟩ := y1.tupE
  obtain ⟨ts, ht, hts⟩ := y2.tupE
  have ul := hus.length
  have tl := hts.length
  refine q_when (Z := Z) (b := decide (us.length ≠ ts.length)) (by walk_at "w") (et_is (et_or (et_not (et_B (by walk_at "ev"))) fun _ => et_or (et_not (et_B (by walk_at "ev"))) fun _ => et_test (by walk_at "ev")) ?_) (fun hb H2 e2 => ?_) (fun hb H2 e2 => ?_)
  · by_cases h : us.length = ts.length
    · simp [isT, h]
    · have h2 : ¬ (us.length : Int) = (ts.length : Int) := by omega
      simp [isT, h, h2]
  · refine s_ret (Z := Z) (by walk_at "w") (by walk_at "ev") fun w H3 e3 r3 => ?_
    subst r3
    refine no (by walk_at "xt") ?_
    have : ¬ cs.length = ws.length := by have := of_decide_eq_true hb; omega
    unfold mixC
    rw [decide_eq_false this]
    rfl
  have hcw : cs.length = ws.length := by
    have := of_decide_eq_false hb
    omega
  have hu2 := hu.mono e2
  by_cases h13 : ¬ (1 ≤ cs.length ∧ cs.length ≤ 3)
  · refine q_when (Z := Z) (b := true) (by walk_at "w") (et_is (a := !(decide ((1 : Int) ≤ (us.length : Int)) && decide ((us.length : Int) ≤ 3)) || false) (et_or (et_not (et_test (ev_chI ev_c (by walk_at "ev") ev_c))) fun h1 => ?_) ?_) (fun _ H3 e3 => ?_) (fun h => by cases h)
    · exfalso
      rw [Bool.not_eq_false', Bool.and_eq_true, decide_eq_true_iff, decide_eq_true_iff] at h1
      omega
    · simp
      omega
    · refine s_ret (Z := Z) (by walk_at "w") (by walk_at "ev") fun w H4 e4 r3 => ?_
      subst r3
      refine no (by walk_at "xt") ?_
      unfold mixC
      rw [decide_eq_false h13, Bool.false_and, Bool.and_false]
  have h13 := Classical.not_not.mp h13
  refine q_when (Z := Z) (b := !cs.all (inC L.length)) (by walk_at "w") (et_is (a := !(decide ((1 : Int) ≤ (us.length : Int)) && decide ((us.length : Int) ≤ 3)) || !cs.all (inC L.length)) (et_or (et_not (et_test (ev_chI ev_c (by walk_at "ev") ev_c))) fun _ => et_test (ev_is (ev_neDD (d := .list ((cs.filter fun c => !inC L.length c).map fun d => d)) (EvN.da (en_lcTP (xs := us) cs (fun c => !inC L.length c) (fun d => d) (by walk_at "ev") hu2 ul (by omega) (fun x => rfl) (fun c hc => (fc c hc).l) (fun i x c H3 e3 hi hc => ?_) (fun i x c H3 e3 hi hc _ => ?_))) (ev_lstD ea_nilD (by simp)) (sm_filter _ fc).2 (by simp [nod, nodL]) ((sm_filter _ fc).1.sh (by decide)) sh_nil) ?_)) ?_) (fun hb H3 e3 => ?_) (fun hb H3 e3 => ?_)
  · obtain ⟨c', h1, h2⟩ := hus.getV hi
    rw [hc] at h1
    cases h1
    have h2 := h2.mono (e2.trans e3)
    have hx3 := hx.mono (e1.trans (e2.trans e3))
    show EvT Z _ [some v, some vp, some vv, some vc, some vw, none, none, some x, none, none, none] H3 (!inC L.length c)
    refine et_is (et_not (et_test (ev_is_in (by walk_at "ev") h2 ev_c (ev_i0 (ev_lenT (by walk_at "ev") hx3) ev_c)))) ?_
    unfold inC
    rw [hlen]
  · obtain ⟨c', h1, h2⟩ := hus.getV hi
    rw [hc] at h1
    cases h1
    exact ev_da (by walk_at "ev") (h2.mono (e2.trans e3))
  · rw [eqv_nil', filter_nil_all]
  · have k1 : (1 : Int) ≤ (us.length : Int) := by omega
    have k2 : (us.length : Int) ≤ 3 := by omega
    simp [k1, k2]
  · refine s_ret (Z := Z) (by walk_at "w") (by walk_at "ev") fun w H4 e4 r3 => ?_
    subst r3
    refine no (by walk_at "xt") ?_
    have : cs.all (inC L.length) = false := by simpa using hb
    unfold mixC
    rw [this]
    simp
  have hall : cs.all (inC L.length) = true := by simpa using hb
  obtain ⟨js, hjs, jlt, jI, jN⟩ := inC_dec (List.all_eq_true.mp hall)
  have jl : js.length = cs.length := by rw [hjs]; exact (List.length_map ..).symm
  have e13 := e1.trans (e2.trans e3)
  have hu3 := hu2.mono e3
  have ht3 := ht.mono (e2.trans e3)
  have hcI : cs = (js.map fun (j : Nat) => (j : Int)).map PyData.int := by rw [hjs, iD_ints]
  have dc : ∀ {H5 σ}, Xt Z H3 H5 → σ[3]? = some (some vc) → Ev Z (tVar 3) σ H5 (DaR Z (.tuple ((js.map fun (j : Nat) => (j : Int)).map PyData.int))) := fun {H5 σ} e5 hs => ev_da (ev_var hs) (by rw [← hcI]; exact y1.mono ((e2.trans e3).trans e5))
  refine q_when (Z := Z) (b := !decide ((cs.map intOf).Pairwise (· < ·)) || !ws.all posW) (by walk_at "w") (et_or (et_test (ev_is (ev_unsorted (dc (.refl e3.w2) rfl) (dc (.refl e3.w2) rfl) (by rw [List.length_map]; omega)) (by rw [jI]))) fun _ => et_test (ev_is (ev_neDD (d := .list ((ws.filter fun c => !posW c).map fun d => d)) (EvN.da (en_lcTP (xs := ts) ws (fun c => !posW c) (fun d => d) (by walk_at "ev") ht3 tl (by omega) (fun x => rfl) (fun c hc => (fw c hc).l) (fun i x c H4 e4 hi hc => ?_) (fun i x c H4 e4 hi hc _ => ?_))) (ev_lstD ea_nilD (by simp)) (sm_filter _ fw).2 (by simp [nod, nodL]) ((sm_filter _ fw).1.sh (by decide)) sh_nil) ?_)) (fun hb H4 e4 => ?_) (fun hb H4 e4 => ?_)
  · obtain ⟨c', h1, h2⟩ := hts.getV hi
    rw [hc] at h1
    cases h1
    have h2 := h2.mono ((e2.trans e3).trans e4)
    show EvT Z _ [some v, some vp, some vv, some vc, some vw, none, none, none, none, none, some x] H4 (!posW c)
    have hrat : Ev Z (tCall (spOf G_is_ratio) [] E0 (tCons (tVar 10) tNil)) [some v, some vp, some vv, some vc, some vw, none, none, none, none, none, some x] H4 (IsV (.bl (isRat c))) := ev_call (ea_cons (by walk_at "ev") ea_nil) fun H5 e5 => ⟨x, c, rfl, h2.mono e5, rfl⟩
    by_cases hr' : isRat c = true
    · obtain ⟨n, m, rfl⟩ : ∃ n m, c = .tuple [.int n, .int m] := by
        unfold isRat at hr'
        split at hr'
        · exact ⟨_, _, rfl⟩
        · cases hr'
      obtain ⟨zs, hz, hzs⟩ := h2.tupE
      obtain ⟨z1, z2, rfl, k1, k2⟩ := da2 hzs
      cases k1
      cases k2
      refine et_is (et_or (et_not (et_B hrat)) fun _ => et_test (ev_i0 (by walk_at "ev") ev_c)) ?_
      unfold isRat at hr'
      unfold posW isRat
      simp only at hr' ⊢
      rw [hr']
      by_cases hn : 0 < n
      · simp [hn]
      · simp [hn]
        omega
    · have hr' : isRat c = false := by simpa using hr'
      refine et_is (a := !isRat c || false) (et_or (et_not (et_B hrat)) fun h => ?_) ?_
      · rw [hr'] at h
        cases h
      · rw [hr']
        rw [posW_rat hr']
        rfl
  · obtain ⟨c', h1, h2⟩ := hts.getV hi
    rw [hc] at h1
    cases h1
    exact ev_da (by walk_at "ev") (h2.mono ((e2.trans e3).trans e4))
  · rw [eqv_nil', filter_nil_all]
  · refine s_ret (Z := Z) (by walk_at "w") (by walk_at "ev") fun w H5 e5 r3 => ?_
    subst r3
    refine no (by walk_at "xt") ?_
    unfold mixC
    rcases Bool.or_eq_true _ _ |>.mp hb with h | h
    · have : decide ((cs.map intOf).Pairwise (· < ·)) = false := by simpa using h
      rw [this]
      simp
    · have : ws.all posW = false := by simpa using h
      rw [this]
      simp
  have hb' := Bool.or_eq_false_iff.mp hb
  have hsort : decide ((cs.map intOf).Pairwise (· < ·)) = true := by simpa using hb'.1
  have hpos : ws.all posW = true := by simpa using hb'.2
  obtain ⟨qs, hqs, qR, qB⟩ := posW_dec (List.all_eq_true.mp hpos) fw
  have ql : qs.length = js.length := by
    have : ws.length = qs.length := by rw [hqs, List.length_map]
    omega
  have hus' : us = iV js := by rw [hjs] at hus; exact i_daL hus
  have e14 := e13.trans e4
  have hu4 := hu3.mono e4
  have ht4 := ht3.mono e4
  have hmC : mixC L p cs ws = sumQ L p js qs := by
    unfold mixC
    rw [decide_eq_true hcw, decide_eq_true h13, hall, hsort, hpos, jN, qR]
    simp
  have hq' : ∀ {H5 b}, Xt Z H H5 → b = sumQ L p js qs → Q (.bl b) H5 := fun {H5 b} e5 h => hq _ _ e5 (by
    show V.bl b = V.bl (mixC L p cs ws)
    rw [h, hmC])
  refine q_par (Z := Z) (by walk_at "w") (RA := fun us H6 => ∃ vt sa va vb B0, us = [vt, .ref sa] ∧ Xt Z H4 B0 ∧ Xt Z B0 H6 ∧ Ra Z 0 vt H6 ∧ Fr B0 sa ∧ ¬ Z.S sa ∧ H6 sa = some (.lst [va, vb]) ∧ Ra Z 0 va H6 ∧ Ra Z 0 vb H6) ?_ fun us' H6 e6 ⟨vt, sa, va, vb, B0, hus6, eB, eB6, rt, fsa, nsa, hsa, ra, rb⟩ => ⟨_, _, hus6, ?_⟩
  · have zz : ∀ {H5 σ}, Xt Z H4 H5 → Ev Z (tTup (tCons (tC (.int 0)) (tCons (tC (.int 1)) tNil))) σ H5 (Ra Z 0) := fun {H5 σ} e5 => ev_tup (vs := [.int 0, .int 1]) (ea_cons ev_c (ea_cons ev_c ea_nil)) (by simp)
    refine ea_consX (zz (.refl e4.w2)) fun vt H5 e5 rt => ?_
    refine ea_consX (EvN.fr (en_lst (RA := fun us H6 => ∃ va vb, us = [va, vb] ∧ Ra Z 0 va H6 ∧ Ra Z 0 vb H6) (ea_consX (zz e5) fun va H6 e6 ra => ea_consX (zz (e5.trans e6)) fun vb H7 e7 rb => ea_nilX fun H8 e8 => ⟨va, vb, rfl, ra.mono (e7.trans e8), rb.mono e8⟩) (fun us H1 ⟨_, _, h, _⟩ => by rw [h]; simp))) fun vs' H6 e6 ⟨sa, h1, h2, h3, us', H7, ⟨va, vb, k1, k2, k3⟩, _, x8, k4, _⟩ => ea_nilX fun H8 e8 => ?_
    exact ⟨vt, sa, va, vb, H5, by rw [h1], e5, e6.trans e8, rt.mono (e6.trans e8), h2, h3, by rw [← k1, e8.kp _ _ h3 k4], k2.mono (x8.trans e8), k3.mono (x8.trans e8)⟩
  show tSeq _ _ _ [some v, some vp, some vv, some vc, some vw, some vt, some (.ref sa), none, none, none, none] H6
  have qlen3 : js.length ≤ 3 := by omega
  have tRB : ∀ i ≤ 3, RB (1100 * i + 10) (tsum (qs.take i)) ∧ RB (1100 * i + 10) (dsum (fun j => rx (gt L j)) ((qs.zip js).take i)) ∧ RB (1100 * i + 10) (dsum (fun j => ry (gt L j)) ((qs.zip js).take i)) := by
    intro i
    induction i with
    | zero =>
      intro _
      have : RB 10 0 := RB.mono (m := 1) ⟨by unfold B; decide, by unfold B; decide⟩ (by decide)
      exact ⟨this, this, this⟩
    | succ i ih =>
      intro hi
      obtain ⟨t1, t2, t3⟩ := ih (by omega)
      by_cases h : i < qs.length
      · have hz : i < (qs.zip js).length := by rw [List.length_zip]; omega
        have hq1 : qs[i]? = some qs[i] := List.getElem?_eq_getElem h
        have hz1 : (qs.zip js)[i]? = some (qs.zip js)[i] := List.getElem?_eq_getElem hz
        have hzz : (qs.zip js)[i] = (qs[i], js[i]'(by omega)) := List.getElem_zip
        have bq := (qB _ (List.getElem_mem h)).2
        have hjl : js[i]'(by omega) < L.length := jlt _ (List.getElem_mem _)
        have ng := hL _ (gt_mem hjl)
        have gw : (gt L (js[i]'(by omega))).w ≠ 0 := by have := ng.p; omega
        have bx : RB 64 (rx (gt L (js[i]'(by omega)))) := RB.mk2 gw ng.x ng.w
        have by' : RB 64 (ry (gt L (js[i]'(by omega)))) := RB.mk2 gw ng.y ng.w
        rw [List.take_succ, List.take_succ, hq1, hz1, hzz]
        refine ⟨?_, ?_, ?_⟩
        · show RB _ (tsum (qs.take i ++ [qs[i]]))
          rw [tsum_snoc]
          exact (t1.add bq).mono (by omega)
        · show RB _ (dsum _ ((qs.zip js).take i ++ [(qs[i], js[i]'(by omega))]))
          rw [dsum_snoc]
          exact (t2.add (bq.mul bx)).mono (by omega)
        · show RB _ (dsum _ ((qs.zip js).take i ++ [(qs[i], js[i]'(by omega))]))
          rw [dsum_snoc]
          exact (t3.add (bq.mul by')).mono (by omega)
      · have hz : ¬ i < (qs.zip js).length := by rw [List.length_zip]; omega
        rw [List.take_of_length_le (by omega), List.take_of_length_le (by omega)]
        rw [List.take_of_length_le (by omega), List.take_of_length_le (by omega)] at *
        exact ⟨t1.mono (by omega), t2.mono (by omega), t3.mono (by omega)⟩
  have htl : us.length = ts.length := by omega
  have htsd : DaL Z H1 ts (qs.map raD) := by rw [← hqs]; exact hts
  have stp : ∀ {i j q}, js[i]? = some j → qs[i]? = some q → (qs.zip js).take (i + 1) = (qs.zip js).take i ++ [(q, j)] ∧ qs.take (i + 1) = qs.take i ++ [q] := fun {i j q} hj hq => by
    have hz1 : (qs.zip js)[i]? = some (q, j) := by rw [List.getElem?_zip_eq_some]; exact ⟨hq, hj⟩
    rw [List.take_succ, List.take_succ, hz1, hq]
    exact ⟨rfl, rfl⟩
  have e0B := e14.trans eB
  refine q_zipT (Z := Z) (xs := us) (ys := ts) (by walk_at "w") (by walk_at "ea") (hu4.mono (eB.trans eB6)) (ht4.mono (eB.trans eB6)) htl (fun i σ' H' => ∃ (vt va vb : V) (y7 y8 y9 : Option V), σ' = [some v, some vp, some vv, some vc, some vw, some vt, some (.ref sa), y7, y8, y9, none] ∧ Xt Z B0 H' ∧ Ra Z (tsum (qs.take i)) vt H' ∧ H' sa = some (.lst [va, vb]) ∧ Ra Z (dsum (fun j => rx (gt L j)) ((qs.zip js).take i)) va H' ∧ Ra Z (dsum (fun j => ry (gt L j)) ((qs.zip js).take i)) vb H')
    (fun H7 e7 => ⟨vt, va, vb, none, none, none, rfl, eB6.trans e7, rt.mono e7, e7.kp _ _ nsa hsa, ra.mono e7, rb.mono e7⟩) (fun i σ' H' ⟨_, _, _, _, _, _, _, e7, _⟩ => ⟨e7.w2, hu4.mono (eB.trans e7), ht4.mono (eB.trans e7)⟩) (fun i x y vpair σ' H' H2 hxi hyi ⟨vt, va, vb, y7, y8, y9, es, e7, rt, hsa, ra, rb⟩ e8 hpair => ?_) (fun σ' H' ⟨vt, va, vb, y7, y8, y9, es, e7, rt, hsa, ra, rb⟩ => ?_)
  · subst es
    refine g_tup2 hpair ?_
    rw [hus'] at hxi
    obtain ⟨j, hj, rfl⟩ := iV_get' hxi
    obtain ⟨q, hq1, hqd⟩ := getD htsd hyi
    have rq : Ra Z q y H1 := Ra.of hqd
    have hjl := jlt j (List.mem_of_getElem? hj)
    obtain ⟨yp, _, hyp, hpp⟩ := atPt hxs (gt_get hjl)
    have ng := hL _ (gt_mem hjl)
    have qb := (qB q (List.mem_of_getElem? hq1)).2
    have gw : (gt L j).w ≠ 0 := by have := ng.p; omega
    have i3 : i < 3 := by
      have := (List.getElem?_eq_some_iff.mp hj).1
      omega
    obtain ⟨t1, t2, t3⟩ := tRB i (by omega)
    obtain ⟨st1, st2⟩ := stp hj hq1
    have e1B : Xt Z H1 B0 := (e2.trans (e3.trans e4)).trans eB
    show tSeq _ _ _ [some v, some vp, some vv, some vc, some vw, some vt, some (.ref sa), some (.int (j : Int)), some y, y9, none] H2
    refine q_asg (Z := Z) (by walk_at "w") (ev_plusR (ev_raV (by walk_at "ev") (rt.mono e8)) (ev_raV (by walk_at "ev") (rq.mono (e1B.trans (e7.trans e8)))) (t1.mono (by omega)) (qb.mono (by decide))) fun vt' H3 e9 rt' => ?_
    rw [← tsum_snoc, ← st2] at rt'
    show tFor _ _ _ _ [some v, some vp, some vv, some vc, some vw, some vt', some (.ref sa), some (.int (j : Int)), some y, y9, none] H3
    have e79 := e7.trans (e8.trans e9)
    have oldx := ra.mono (e8.trans e9)
    have oldy := rb.mono (e8.trans e9)
    refine s_forR1 (Z := Z) (n := 2) (by walk_at "w") (ea_cons ev_c ea_nil) (by decide) (fun k σ' H' => ∃ (va vb : V) (y9 : Option V), σ' = [some v, some vp, some vv, some vc, some vw, some vt', some (.ref sa), some (.int (j : Int)), some y, y9, none] ∧ Xt Z B0 H' ∧ Ra Z (tsum (qs.take (i + 1))) vt' H' ∧ H' sa = some (.lst [va, vb]) ∧ Ra Z (dsum (fun j => rx (gt L j)) ((qs.zip js).take (if 0 < k then i + 1 else i))) va H' ∧ Ra Z (dsum (fun j => ry (gt L j)) ((qs.zip js).take (if 1 < k then i + 1 else i))) vb H')
      (fun H4 e10 => ⟨va, vb, y9, rfl, e79.trans e10, rt'.mono e10, (e8.trans (e9.trans e10)).kp _ _ nsa hsa, oldx.mono e10, oldy.mono e10⟩) (fun k σ' H' hk ⟨va, vb, y9, es, e10, rt', hsa, rx', ry'⟩ => ?_) (fun σ' H' ⟨va, vb, y9, es, e10, rt', hsa, rx', ry'⟩ => ⟨vt', va, vb, _, _, _, es, e10, rt', hsa, rx', ry'⟩)
    subst es
    have hx10 := hx.mono (e0B.trans e10)
    have pp10 := hpp.mono (e0B.trans e10)
    have rq10 := rq.mono (e1B.trans e10)
    have hls : LiR Z [va, vb] (.ref sa) H' := ⟨sa, rfl, hsa, nsa⟩
    have bgx : RB 64 (rx (gt L j)) := RB.mk2 gw ng.x ng.w
    have bgy : RB 64 (ry (gt L j)) := RB.mk2 gw ng.y ng.w
    have hpt : ∀ {σ}, σ[0]? = some (some v) → σ[7]? = some (some (.int (j : Int))) → Ev Z (tOp (rIxT K) (tVar 0) (tVar 7)) σ H' (IsV yp) := fun {σ} h0 h7 => ev_ixT (ev_var h0) hx10 (ev_var h7) hyp
    have k2 : k = 0 ∨ k = 1 := by omega
    rcases k2 with rfl | rfl
    · show tAsg _ _ _ [some v, some vp, some vv, some vc, some vw, some vt', some (.ref sa), some (.int (j : Int)), some y, some (.int 0), none] H'
      refine s_setL (Z := Z) (l := sa) (xs := [va, vb]) (i := 0) (j := 0) (by walk_at "w") hsa nsa (ev_plusR (p := dsum (fun j => rx (gt L j)) ((qs.zip js).take i)) (q := q * rx (gt L j)) (ev_raV (ev_ixL (by walk_at "ev") hls (by walk_at "ev") rfl) rx') (ev_timesR (ev_raV (by walk_at "ev") rq10) (ev_reduced (ev_ixT (hpt rfl rfl) pp10 (by walk_at "ev") rfl) (ev_ixT (hpt rfl rfl) pp10 ev_c rfl) gw (ng.w.mono (by decide))) (qb.mono (by decide)) (bgx.mono (by decide))) (t2.mono (by omega)) ((qb.mul bgx).mono (by decide))) (by walk_at "ev") (by walk_at "ev") rfl fun w H4 H5 x4 x5 hw hsa5 => ?_
      have x45 := x4.trans x5
      refine ⟨w, vb, _, rfl, Xt.mut (e10.trans x45) fsa nsa hsa5, TuR.mut hsa5 (rt'.mono x45), upd_same, ?_, TuR.mut hsa5 (Ra.mono x45 ry')⟩
      show Ra Z (dsum (fun j => rx (gt L j)) ((qs.zip js).take (i + 1))) w _
      rw [st1, dsum_snoc]
      exact TuR.mut hsa5 (hw.mono x5)
    · show tAsg _ _ _ [some v, some vp, some vv, some vc, some vw, some vt', some (.ref sa), some (.int (j : Int)), some y, some (.int 1), none] H'
      refine s_setL (Z := Z) (l := sa) (xs := [va, vb]) (i := 1) (j := 1) (by walk_at "w") hsa nsa (ev_plusR (p := dsum (fun j => ry (gt L j)) ((qs.zip js).take i)) (q := q * ry (gt L j)) (ev_raV (ev_ixL (by walk_at "ev") hls (by walk_at "ev") rfl) ry') (ev_timesR (ev_raV (by walk_at "ev") rq10) (ev_reduced (ev_ixT (hpt rfl rfl) pp10 (by walk_at "ev") rfl) (ev_ixT (hpt rfl rfl) pp10 ev_c rfl) gw (ng.w.mono (by decide))) (qb.mono (by decide)) (bgy.mono (by decide))) (t3.mono (by omega)) ((qb.mul bgy).mono (by decide))) (by walk_at "ev") (by walk_at "ev") rfl fun w H4 H5 x4 x5 hw hsa5 => ?_
      have x45 := x4.trans x5
      refine ⟨va, w, _, rfl, Xt.mut (e10.trans x45) fsa nsa hsa5, TuR.mut hsa5 (rt'.mono x45), upd_same, TuR.mut hsa5 (Ra.mono x45 rx'), ?_⟩
      show Ra Z (dsum (fun j => ry (gt L j)) ((qs.zip js).take (i + 1))) w _
      rw [st1, dsum_snoc]
      exact TuR.mut hsa5 (hw.mono x5)
  · subst es
    have lz : (qs.zip js).length ≤ us.length := by rw [List.length_zip]; omega
    rw [List.take_of_length_le (by omega)] at rt
    rw [List.take_of_length_le lz] at ra rb
    have pp7 := pp.mono (e0B.trans e7)
    have npw : p.w ≠ 0 := by have := np.p; omega
    have hsums : Da Z H' (.ref sa) (.list [raD (dsum (fun j => rx (gt L j)) (qs.zip js)), raD (dsum (fun j => ry (gt L j)) (qs.zip js))]) := .lst hsa nsa (.cons ra.da (.cons rb.da .nil))
    have hcc := en_lcRP (Z := Z) (σ := [some v, some vp, some vv, some vc, some vw, some vt, some (.ref sa), y7, y8, y9, none]) (H := H') (vs := [9]) (j := 9) (n := 2) (t := tYes) (ta := tCons (tC (.int 2)) tNil) (te := tCall (spOf G_reduced) [] E0 (tCons (tOp (rIxT K) (tVar 1) (tVar 9)) (tCons (tOp (rIxT K) (tVar 1) (tC (.int 2))) tNil))) (fun _ => true) (fun k => if k = 0 then raD (rx p) else raD (ry p)) (ea_cons ev_c ea_nil) (by decide) (fun x => rfl) (fun i _ => by
        show noL (if i = 0 then raD (rx p) else raD (ry p)) = true
        split <;> exact raD_noL _) (fun i H2 e2 _ => et_yes) (fun i H8 e8 hi _ => ?_)
    · refine s_ret (Z := Z) (R := IsV (.bl (sumQ L p js qs))) (by walk_at "w") (ev_andV (ev_is (ev_eqDD (ev_da (by walk_at "ev") rt.da) (Ev.imp (R := TuR Z [.int 1, .int 1]) (ev_tup (ea_cons ev_c (ea_cons ev_c ea_nil)) (by simp)) fun w H8 e8 h8 => (Ra.da (q := 1) h8)) (raD_nod _) (raD_nod _) (raD_sh _) (raD_sh _)) (by rw [raD_eqv])) fun _ => ev_is (ev_eqDD (ev_da (by walk_at "ev") hsums) hcc.da (nod_ra2 _ _) (nod_ra2 _ _) ((sm_ra2 _ _).sh (by decide)) ((sm_ra2 _ _).sh (by decide))) ?_) fun w H8 e8 r8 => hq' (e0B.trans (e7.trans e8)) rfl |> fun h => by rw [r8]; exact h
      rw [show (List.map (fun k => if k = 0 then raD (rx p) else raD (ry p)) (List.filter (fun _ => true) (List.range 2))) = [raD (rx p), raD (ry p)] from rfl, eqv_ra2]
    · have pp8 := pp7.mono e8
      have : i = 0 ∨ i = 1 := by omega
      rcases this with rfl | rfl
      · exact Ev.imp (ev_reduced (n := p.x) (d := p.w) (ev_ixT (by walk_at "ev") pp8 (by walk_at "ev") rfl) (ev_ixT (by walk_at "ev") pp8 ev_c rfl) npw (np.w.mono (by decide))) fun w H9 e9 h9 => h9.da
      · exact Ev.imp (ev_reduced (n := p.y) (d := p.w) (ev_ixT (by walk_at "ev") pp8 (by walk_at "ev") rfl) (ev_ixT (by walk_at "ev") pp8 ev_c rfl) npw (np.w.mono (by decide))) fun w H9 e9 h9 => h9.da
section
variable {Z : Wd} {σ : L2.St} {H : Hp} {ta tb tc : TE} {E : XK}
theorem ev_is_mixture {v vp vv : V} {L : List Pt} {p : Pt} {d0 d1 d2 : PyData} (h1 : Ev Z ta σ H (IsV v)) (h2 : Ev Z tb σ H (IsV vp)) (h3 : Ev Z tc σ H (IsV vv)) (hd : Da Z H v (.tuple (L.map ptD))) (pp : P3 Z vp p H) (hL : ∀ q ∈ L, Nm q) (l1 : 1 ≤ L.length) (hl : L.length ≤ 40) (np : Nm p) (hv : Da Z H vv (.tuple [d0, d1, d2])) (g1 : FitT d1) (g2 : FitT d2) :
    Ev Z (tCall (spOf G_is_mixture) [] E (tCons ta (tCons tb (tCons tc tNil)))) σ H (IsV (.bl (mixB L p d1 d2))) :=
  ev_call (ea_cons h1 (ea_cons h2 (ea_cons h3 ea_nil))) fun H1 e => ⟨v, vp, vv, L, p, d0, d1, d2, rfl, hd.mono e, pp.mono e, hL, l1, hl, np, hv.mono e, g1, g2, rfl⟩
end
end
end Hk
/-! ## F17 -/
namespace Hk
open PySem PySem.Spec PyProof.Rows L2
local macro_rules | `(tactic| walk_at "bd") => `(tactic| first
  | assumption
  | exact (show B 64 _ from by unfold B; decide)
  | (refine' B.mul ?b1 ?b2; (case b1 => walk_at "bd"); (case b2 => walk_at "bd"))
  | (refine' B.sub ?b1 ?b2; (case b1 => walk_at "bd"); (case b2 => walk_at "bd"))
  | (refine' B.add ?b1 ?b2; (case b1 => walk_at "bd"); (case b2 => walk_at "bd"))
  | (refine' B.neg ?b1; (case b1 => walk_at "bd")))
local macro_rules | `(tactic| walk_at "da") => `(tactic| first
  | assumption
  | exact Da.int _
  | exact Da.non
  | exact Da.bl _
  | exact Da.str _
  | ((with_reducible refine' P3.mono (by assumption) ?d1); (case d1 => walk_at "da"))
  | ((with_reducible refine' Ra.mono (by assumption) ?d1); (case d1 => walk_at "da"))
  | ((with_reducible refine' TuR.mono (by assumption) ?d1); (case d1 => walk_at "da"))
  | ((with_reducible refine' LiR.mono (by assumption) ?d1); (case d1 => walk_at "da"))
  | ((with_reducible refine' Da.mono (by assumption) ?d1); (case d1 => walk_at "da")))
local macro_rules | `(tactic| walk_at "xt") => `(tactic| first
  | assumption
  | (refine' Xt.trans ?x1 (by assumption); (case x1 => walk_at "xt")))
local macro_rules | `(tactic| walk_at "w") => `(tactic| first
  | assumption
  | exact Xt.w2 (by assumption)
  | exact Xt.w1 (by assumption))
local macro_rules | `(tactic| walk_at "side") => `(tactic| first
  | assumption
  | (refine' B.cmul ?b1 ?b2 ?b3; (case b1 => walk_at "bd"); (case b2 => walk_at "bd"); (case b3 => first | decide | omega))
  | (refine' B.cdiv ?b1 ?b2 ?b3; (case b1 => assumption); (case b2 => walk_at "bd"); (case b3 => first | decide | omega)))
local macro_rules | `(tactic| walk_at "ea") => `(tactic| first
  | with_reducible exact ea_nil
  | ((with_reducible refine' ea_cons ?p1 ?p2); (case p1 => walk_at "ev"); (case p2 => walk_at "ea")))
local macro_rules | `(tactic| walk_at "et") => `(tactic| first
  | ((with_reducible refine' et_and ?p1 ?p2); (case p1 => walk_at "et"); (case p2 => intro _; walk_at "et"))
  | ((with_reducible refine' et_or ?p1 ?p2); (case p1 => walk_at "et"); (case p2 => intro _; walk_at "et"))
  | ((with_reducible refine' et_not ?p1); (case p1 => walk_at "et"))
  | ((with_reducible refine' et_test ?p1); (case p1 => walk_at "ev"))
  | ((with_reducible refine' et_B ?p1); (case p1 => walk_at "ev")))
local macro_rules | `(tactic| walk_at "ev") => `(tactic| first
  | with_reducible exact ev_c
  | ((with_reducible refine' ev_var ?v1); (case v1 => exact rfl))
  | ((with_reducible refine' ev_px ?p1 ?p2 ?p3); (case p1 => walk_at "ev"); (case p2 => walk_at "da"); (case p3 => with_reducible exact ev_c))
  | ((with_reducible refine' ev_py ?p1 ?p2 ?p3); (case p1 => walk_at "ev"); (case p2 => walk_at "da"); (case p3 => with_reducible exact ev_c))
  | ((with_reducible refine' ev_pw ?p1 ?p2 ?p3); (case p1 => walk_at "ev"); (case p2 => walk_at "da"); (case p3 => with_reducible exact ev_c))
  | ((with_reducible refine' ev_ixT ?p1 ?p2 ?p3 ?p4); (case p1 => walk_at "ev"); (case p2 => walk_at "da"); (case p3 => walk_at "ev"); (case p4 => first | exact rfl | assumption))
  | ((with_reducible refine' ev_ixL ?p1 ?p2 ?p3 ?p4); (case p1 => walk_at "ev"); (case p2 => walk_at "da"); (case p3 => walk_at "ev"); (case p4 => first | exact rfl | assumption))
  | ((with_reducible refine' ev_i0 ?p1 ?p2); (case p1 => walk_at "ev"); (case p2 => walk_at "ev"))
  | ((with_reducible refine' ev_iC ?p1 ?p2 ?p3); (case p1 => walk_at "ev"); (case p2 => walk_at "ev"); (case p3 => walk_at "side"))
  | ((with_reducible refine' ev_neg ?p1); (case p1 => walk_at "ev"))
  | ((with_reducible refine' ev_eq ?p1 ?p2 ?p3); (case p1 => walk_at "ev"); (case p2 => walk_at "ev"); (case p3 => exact rfl))
  | ((with_reducible refine' ev_ne ?p1 ?p2 ?p3); (case p1 => walk_at "ev"); (case p2 => walk_at "ev"); (case p3 => exact rfl))
  | ((with_reducible refine' ev_andV ?p1 ?p2); (case p1 => walk_at "ev"); (case p2 => intro _; walk_at "ev"))
  | ((with_reducible refine' ev_orV ?p1 ?p2); (case p1 => walk_at "ev"); (case p2 => intro _; walk_at "ev"))
  | ((with_reducible refine' ev_notV ?p1); (case p1 => walk_at "ev"))
  | ((with_reducible refine' ev_subB ?p1 ?p2); (case p1 => walk_at "ev"); (case p2 => walk_at "ev"))
  | ((with_reducible refine' ev_chI ?p1 ?p2 ?p3); (case p1 => walk_at "ev"); (case p2 => walk_at "ev"); (case p3 => walk_at "ev"))
  | ((with_reducible refine' ev_isInt ?p1 ?p2); (case p1 => walk_at "ev"); (case p2 => walk_at "da"))
  | ((with_reducible refine' ev_isBool ?p1 ?p2); (case p1 => walk_at "ev"); (case p2 => walk_at "da"))
  | ((with_reducible refine' ev_isStr ?p1 ?p2); (case p1 => walk_at "ev"); (case p2 => walk_at "da"))
  | ((with_reducible refine' ev_isTup ?p1 ?p2); (case p1 => walk_at "ev"); (case p2 => walk_at "da"))
  | ((with_reducible refine' ev_isLst ?p1 ?p2); (case p1 => walk_at "ev"); (case p2 => walk_at "da"))
  | ((with_reducible refine' ev_isTL ?p1 ?p2); (case p1 => walk_at "ev"); (case p2 => walk_at "da"))
  | ((with_reducible refine' ev_lenT ?p1 ?p2); (case p1 => walk_at "ev"); (case p2 => walk_at "da"))
  | ((with_reducible refine' ev_lenL ?p1 ?p2); (case p1 => walk_at "ev"); (case p2 => walk_at "da"))
  | ((with_reducible refine' ev_abs ?p1); (case p1 => walk_at "ev"))
  | ((with_reducible refine' ev_min2 ?p1 ?p2); (case p1 => walk_at "ev"); (case p2 => walk_at "ev"))
  | ((with_reducible refine' ev_int1 ?p1); (case p1 => walk_at "ev"))
  | ((with_reducible refine' ev_isN ?p1); (case p1 => walk_at "ev"))
  | ((with_reducible refine' ev_notN ?p1); (case p1 => walk_at "ev"))
  | ((with_reducible refine' ev_sign ?p1); (case p1 => walk_at "ev"))
  | ((with_reducible refine' ev_gcd ?p1 ?p2); (case p1 => walk_at "ev"); (case p2 => walk_at "ev"))
  | ((with_reducible refine' ev_is_in ?p1 ?p2 ?p3 ?p4); (case p1 => walk_at "ev"); (case p2 => walk_at "da"); (case p3 => walk_at "ev"); (case p4 => walk_at "ev"))
  | ((with_reducible refine' ev_doubled ?p1 ?p2 ?p3 ?p4 ?p5 ?p6 ?p7 ?p8 ?p9); (case p1 => walk_at "ev"); (case p2 => walk_at "ev"); (case p3 => walk_at "ev"); (case p4 => walk_at "da"); (case p5 => walk_at "da"); (case p6 => walk_at "da"); (case p7 => assumption); (case p8 => assumption); (case p9 => assumption))
  | ((with_reducible refine' ev_order_of ?p1 ?p2 ?p3 ?p4 ?p5 ?p6); (case p1 => walk_at "ev"); (case p2 => walk_at "ev"); (case p3 => walk_at "da"); (case p4 => walk_at "da"); (case p5 => assumption); (case p6 => assumption))
  | ((with_reducible refine' ev_turn_of ?p1 ?p2 ?p3 ?p4 ?p5 ?p6 ?p7 ?p8 ?p9); (case p1 => walk_at "ev"); (case p2 => walk_at "ev"); (case p3 => walk_at "ev"); (case p4 => walk_at "da"); (case p5 => walk_at "da"); (case p6 => walk_at "da"); (case p7 => assumption); (case p8 => assumption); (case p9 => assumption))
  | ((with_reducible refine' ev_is_between ?p1 ?p2 ?p3 ?p4 ?p5 ?p6 ?p7 ?p8 ?p9); (case p1 => walk_at "ev"); (case p2 => walk_at "ev"); (case p3 => walk_at "ev"); (case p4 => walk_at "da"); (case p5 => walk_at "da"); (case p6 => walk_at "da"); (case p7 => assumption); (case p8 => assumption); (case p9 => assumption)))
section
variable {P : Program} {w : World} {K : PySem.W.Frag} {mg : Str → Option Value} {base : Heap}
/-! shows_in_hull -/
def isStrC (d : PyData) (s : Str) : Bool := match d with
  | .str x => decide (x = s)
  | _ => false
def sIn : Str := Str.ofString "in"
def sOut : Str := Str.ofString "out"
def showB (L : List Pt) (p : Pt) (d : PyData) : Bool := match d with
  | .tuple [d0, d1, d2] => isStrC d0 sIn && mixB L p d1 d2
  | .tuple [d0, d1, d2, d3] => isStrC d0 sOut && barB L p d1 d2 d3
  | _ => false
/-- a value that the judge may be asked -/
structure FitI (d : PyData) : Prop where
  n : nod d = true
  s : sm 5 d
  b : bigI d
  t : FitT d
def Fit (d : PyData) : Prop := ∀ ds, d = .tuple ds → ∀ e ∈ ds, FitI e
theorem eqv_str (x s : Str) : PyData.eqv (.str x) (.str s) = decide (x = s) := by
  simp only [PyData.eqv]
  by_cases h : x = s
  · subst h; simp
  · simp [h]
theorem showB_len {L : List Pt} {p : Pt} {ds : List PyData} (h3 : ds.length ≠ 3) (h4 : ds.length ≠ 4) : showB L p (.tuple ds) = false := by
  unfold showB
  split
  · rename_i e
    cases e
    exact absurd rfl h3
  · rename_i e
    cases e
    exact absurd rfl h4
  · rfl
def G_shows_in_hull : Gv := fun Z vs H R => ∃ v vp vv L p d, vs = [v, vp, vv] ∧ Da Z H v (.tuple (L.map ptD)) ∧ P3 Z vp p H ∧ Pts L ∧ Ok p ∧ Da Z H vv d ∧ Fit d ∧ R = IsV (.bl (showB L p d))
theorem ok_shows_in_hull (T : Tx K mg) : FnOk P w K mg base CX0 5 T.f_shows_in_hull T.d_shows_in_hull ["points", "p", "value"] (spOf G_shows_in_hull) := by
  refine T.F_shows_in_hull.ok sc_shows_in_hull (fun vs H Q E h => ?_) (fun cdv A outer s H vs Q E hr h => ?_)
  · obtain ⟨Z, R, _, ⟨v, vp, vv, L, p, d, rfl, _⟩, _⟩ := h
    rfl
  obtain ⟨Z, R, hw, ⟨v, vp, vv, L, p, d, rfl, hd, pp, hL, op, hv, hf, rfl⟩, hq⟩ := h
  refine ⟨_, (pss_cons (ps_expr (pe_call (ok_need_points T) (hr.mono (by decide)) (by rfl) T.g_need_points T.F_need_points.kp T.b_need_points .nil pass0 (pa_cons (pv 0) pa_nil)))
  (pss_cons (ps_expr (pe_call (ok_need_point T) (hr.mono (by decide)) (by rfl) T.g_need_point T.F_need_point.kp T.b_need_point .nil pass0 (pa_cons (pv 1) pa_nil)))
  (pss_cons (ps_if (PW.pt (pw_or (pt_not (pt_val (pe_callB call_isi (by rfl) T.z_isinstance (by decide +kernel) (pa_cons (pv 2) (pa_cons (pe_bltn (v := .ty "tuple") (u := .type "tuple") (by rfl) T.z_tuple (by decide +kernel) rfl) pa_nil))))) (pw_or1 (pt_cmpR op_notIn_seq (pe_callB call_len_seq (by rfl) T.z_len (by decide +kernel) (pa_cons (pv 2) pa_nil)) (pe_tup (pa_cons pe_int (pa_cons pe_int pa_nil))) (by rfl)))))
  (pss_one (ps_ret pe_bl))
  pss_nil)
  (pss_cons (ps_if (pt_not (pt_val (pe_callB call_isi (by rfl) T.z_isinstance (by decide +kernel) (pa_cons (pe_ix ix_tup (pv 2) pe_int (fun _ _ => rfl)) (pa_cons (pe_bltn (v := .ty "str") (u := .type "str") (by rfl) T.z_str (by decide +kernel) rfl) pa_nil)))))
  (pss_one (ps_ret pe_bl))
  pss_nil)
  (pss_cons (ps_if (pt_cmpR op_eq (pe_callB call_len_seq (by rfl) T.z_len (by decide +kernel) (pa_cons (pv 2) pa_nil)) pe_int (nomark _))
  (pss_one (ps_ret (pe_and (pe_cmpR (op_eqD hr.units) (pe_ix ix_tup (pv 2) pe_int (fun _ _ => rfl)) pe_str (nomark _)) (pe_one (pe_call (ok_is_mixture T) (hr.mono (by decide)) (by rfl) T.g_is_mixture T.F_is_mixture.kp T.b_is_mixture .nil pass0 (pa_cons (pv 0) (pa_cons (pv 1) (pa_cons (pv 2) pa_nil))))))))
  pss_nil)
  (pss_one (ps_ret (pe_and (pe_cmpR (op_eqD hr.units) (pe_ix ix_tup (pv 2) pe_int (fun _ _ => rfl)) pe_str (nomark _)) (pe_one (pe_call (ok_is_barrier T) (hr.mono (by decide)) (by rfl) T.g_is_barrier T.F_is_barrier.kp T.b_is_barrier .nil pass0 (pa_cons (pv 0) (pa_cons (pv 1) (pa_cons (pv 2) pa_nil))))))))))))), ?_⟩
  rw [show L2.start nm_shows_in_hull [v, vp, vv] = [some v, some vp, some vv] from rfl]
  have hn : ∀ q ∈ L, Nm q := fun q hq => (hL.ok q hq).nm
  have l1 := hL.l1
  have l2 := hL.l2
  refine q_drop (Z := Z) (by walk_at "w") (ev_need_points (by walk_at "ev") hd hL) fun v1 H1 e1 r1 => ?_
  refine q_drop (Z := Z) (by walk_at "w") (ev_need_point (by walk_at "ev") (pp.mono e1) op) fun v2 H2 e2 r2 => ?_
  have e12 := e1.trans e2
  have hd := hd.mono e12
  have pp := pp.mono e12
  have hv := hv.mono e12
  have no : ∀ {H5}, Xt Z H2 H5 → showB L p d = false → Q (.bl false) H5 := fun {H5} e5 h => hq _ _ (e12.trans e5) (by rw [h])
  by_cases hT : isT d = false
  · refine q_when (Z := Z) (b := true) (by walk_at "w") (et_is (a := !isT d || false) (et_or (et_not (et_B (by walk_at "ev"))) fun h => by rw [hT] at h; cases h) (by rw [hT]; rfl)) (fun _ H3 e3 => ?_) (fun h => by cases h)
    refine s_ret (Z := Z) (by walk_at "w") (by walk_at "ev") fun w H4 e4 r3 => ?_
    subst r3
    refine no (by walk_at "xt") ?_
    unfold showB
    split
    · cases hT
    · cases hT
    · rfl
  obtain ⟨ds, rfl⟩ : ∃ ds, d = .tuple ds := by
    cases d <;> simp [isT] at hT
    exact ⟨_, rfl⟩
  have hfd := hf ds rfl
  obtain ⟨ys, hy, hys⟩ := hv.tupE
  have yl := hys.length
  refine q_when (Z := Z) (b := decide (¬ (ds.length = 3 ∨ ds.length = 4))) (by walk_at "w") (et_is (et_or (et_not (et_B (by walk_at "ev"))) fun _ => et_test (ev_notInI (vs := [.int 3, .int 4]) (by walk_at "ev") (ea_cons ev_c (ea_cons ev_c ea_nil)) rfl (by simp))) ?_) (fun hb H3 e3 => ?_) (fun hb H3 e3 => ?_)
  · rw [yl]
    by_cases h : ds.length = 3 ∨ ds.length = 4
    · rcases h with h | h <;> (rw [h]; rfl)
    · have h3 : ¬ (ds.length : Int) = 3 := by omega
      have h4 : ¬ (ds.length : Int) = 4 := by omega
      have e : inV (.int (ds.length : Int)) [.int 3, .int 4] = false := by
        unfold inV
        simp [eqV]
        omega
      rw [e, decide_eq_true h]
      rfl
  · have hb := of_decide_eq_true hb
    refine s_ret (Z := Z) (by walk_at "w") (by walk_at "ev") fun w H4 e4 r3 => ?_
    subst r3
    exact no (by walk_at "xt") (showB_len (fun h => hb (.inl h)) fun h => hb (.inr h))
  have hb := Classical.not_not.mp (of_decide_eq_false hb)
  obtain ⟨d0, dr, rfl⟩ : ∃ d0 dr, ds = d0 :: dr := by
    cases ds with
    | nil => simp at hb
    | cons a r => exact ⟨a, r, rfl⟩
  have f0 := hfd d0 (by simp)
  obtain ⟨y0, yr, rfl, y0d⟩ : ∃ y0 yr, ys = y0 :: yr ∧ Da Z H2 y0 d0 := by
    cases hys with
    | cons a b => exact ⟨_, _, rfl, a⟩
  have hy3 := hy.mono e3
  have y03 := y0d.mono e3
  have ix0 : ∀ {H5 σ}, Xt Z H3 H5 → σ[2]? = some (some vv) → Ev Z (tOp (rIxT K) (tVar 2) (tC (.int 0))) σ H5 (IsV y0) := fun {H5 σ} e5 hs => ev_ixT (ev_var hs) (hy3.mono e5) ev_c (by rw [show (0 : Int) = ((0 : Nat) : Int) from rfl]; exact atI_nat rfl)
  refine q_when (Z := Z) (b := !isS d0) (by walk_at "w") (et_not (et_test (ev_isStr (ix0 (.refl e3.w2) rfl) y03))) (fun hb1 H4 e4 => ?_) (fun hb1 H4 e4 => ?_)
  · refine s_ret (Z := Z) (by walk_at "w") (by walk_at "ev") fun w H5 e5 r3 => ?_
    subst r3
    refine no (by walk_at "xt") ?_
    have hs : ∀ s, isStrC d0 s = false := fun s => by
      cases d0 <;> simp [isS] at hb1 <;> rfl
    unfold showB
    split
    · rename_i e
      cases e
      rw [hs]; rfl
    · rename_i e
      cases e
      rw [hs]; rfl
    · rfl
  obtain ⟨x, rfl⟩ : ∃ x, d0 = .str x := by
    cases d0 <;> simp [isS] at hb1
    exact ⟨_, rfl⟩
  have e24 := e3.trans e4
  have seq : ∀ (c : Str), PyData.strOk c = true → Ev Z (tOp (rEqD K) (tOp (rIxT K) (tVar 2) (tC (.int 0))) (tC (.str c))) [some v, some vp, some vv] H4 (IsV (.bl (isStrC (.str x) c))) := fun c hc => ev_is (ev_eqDD (ev_da (ix0 e4 rfl) (y03.mono e4)) (ev_da ev_c (.str c)) (by simp [nod]) (by simp [nod]) (f0.s.sh (by decide)) ((sm_str 0 hc).sh (by decide))) (by rw [eqv_str]; rfl)
  have hy4 := hy3.mono e4
  rcases hb with hb | hb
  · obtain ⟨d1, d2, rfl⟩ : ∃ d1 d2, dr = [d1, d2] := by
      match dr, hb with
      | [d1, d2], _ => exact ⟨d1, d2, rfl⟩
    have l3 : yr.length + 1 = 3 := yl
    refine q_when (Z := Z) (b := true) (by walk_at "w") (et_is (by walk_at "et") (by simp; omega)) (fun _ H5 e5 => ?_) (fun h => by cases h)
    refine s_ret (Z := Z) (R := IsV (.bl (showB L p (.tuple [.str x, d1, d2])))) (by walk_at "w") ((ev_andV (seq sIn (by decide +kernel)) fun _ => ev_is_mixture (by walk_at "ev") (by walk_at "ev") (by walk_at "ev") (hd.mono e24) (pp.mono e24) hn l1 l2 op.nm (hv.mono e24) (hfd d1 (by simp)).t (hfd d2 (by simp)).t).mono e5) fun w H6 e6 r6 => hq _ _ (e12.trans (e24.trans (e5.trans e6))) r6
  · obtain ⟨d1, d2, d3, rfl⟩ : ∃ d1 d2 d3, dr = [d1, d2, d3] := by
      match dr, hb with
      | [d1, d2, d3], _ => exact ⟨d1, d2, d3, rfl⟩
    have l3 : yr.length + 1 = 4 := yl
    refine q_when (Z := Z) (b := false) (by walk_at "w") (et_is (by walk_at "et") (by simp; omega)) (fun h => by cases h) (fun _ H5 e5 => ?_)
    refine s_ret (Z := Z) (R := IsV (.bl (showB L p (.tuple [.str x, d1, d2, d3])))) (by walk_at "w") ((ev_andV (seq sOut (by decide +kernel)) fun _ => ev_is_barrier (by walk_at "ev") (by walk_at "ev") (by walk_at "ev") (hd.mono e24) (pp.mono e24) hn l2 op.nm (hv.mono e24) (hfd d1 (by simp)).b (hfd d2 (by simp)).b (hfd d3 (by simp)).b).mono e5) fun w H6 e6 r6 => hq _ _ (e12.trans (e24.trans (e5.trans e6))) r6
section
variable {Z : Wd} {σ : L2.St} {H : Hp} {ta tb tc : TE} {E : XK}
theorem ev_shows {v vp vv : V} {L : List Pt} {p : Pt} {d : PyData} (h1 : Ev Z ta σ H (IsV v)) (h2 : Ev Z tb σ H (IsV vp)) (h3 : Ev Z tc σ H (IsV vv)) (hd : Da Z H v (.tuple (L.map ptD))) (pp : P3 Z vp p H) (hL : Pts L) (op : Ok p) (hv : Da Z H vv d) (hf : Fit d) :
    Ev Z (tCall (spOf G_shows_in_hull) [] E (tCons ta (tCons tb (tCons tc tNil)))) σ H (IsV (.bl (showB L p d))) :=
  ev_call (ea_cons h1 (ea_cons h2 (ea_cons h3 ea_nil))) fun H1 e => ⟨v, vp, vv, L, p, d, rfl, hd.mono e, pp.mono e, hL, op, hv.mono e, hf, rfl⟩
theorem ev_hull {tbs : List (Addr × Str)} {v : V} {L : List Pt} (tw : TabW Z tbs) (h1 : Ev Z ta σ H (IsV v)) (hp : Da Z H v (.tuple (L.map ptD))) (ho : Pts L) : Ev Z (tCall (spOf (G_hull tbs)) [] E (tCons ta tNil)) σ H (DaR Z (.tuple ((hullP L).map ptD))) :=
  ev_call (ea_cons h1 ea_nil) fun H1 e => ⟨v, L, rfl, tw, hp.mono e, ho, rfl⟩
theorem ev_locate_in_hull {tbs : List (Addr × Str)} {v vp : V} {L : List Pt} {p : Pt} (tw : TabW Z tbs) (h1 : Ev Z ta σ H (IsV v)) (h2 : Ev Z tb σ H (IsV vp)) (hp : Da Z H v (.tuple (L.map ptD))) (pp : P3 Z vp p H) (ho : Pts L) (op : Ok p) : Ev Z (tCall (spOf (G_locate_in_hull tbs)) [] E (tCons ta (tCons tb tNil))) σ H (LoR Z L p) :=
  ev_call (ea_cons h1 (ea_cons h2 ea_nil)) fun H1 e => ⟨v, vp, L, p, rfl, tw, hp.mono e, pp.mono e, ho, op, rfl⟩
end
end
end Hk
/-! ## F18 -/
namespace Hk
open PySem PySem.Spec PyProof.Rows L2
local macro_rules | `(tactic| walk_at "bd") => `(tactic| first
  | assumption
  | exact (show B 64 _ from by unfold B; decide)
  | (refine' B.mul ?b1 ?b2; (case b1 => walk_at "bd"); (case b2 => walk_at "bd"))
  | (refine' B.sub ?b1 ?b2; (case b1 => walk_at "bd"); (case b2 => walk_at "bd"))
  | (refine' B.add ?b1 ?b2; (case b1 => walk_at "bd"); (case b2 => walk_at "bd"))
  | (refine' B.neg ?b1; (case b1 => walk_at "bd")))
local macro_rules | `(tactic| walk_at "da") => `(tactic| first
  | assumption
  | exact Da.int _
  | exact Da.non
  | exact Da.bl _
  | exact Da.str _
  | ((with_reducible refine' P3.mono (by assumption) ?d1); (case d1 => walk_at "da"))
  | ((with_reducible refine' Ra.mono (by assumption) ?d1); (case d1 => walk_at "da"))
  | ((with_reducible refine' TuR.mono (by assumption) ?d1); (case d1 => walk_at "da"))
  | ((with_reducible refine' LiR.mono (by assumption) ?d1); (case d1 => walk_at "da"))
  | ((with_reducible refine' Da.mono (by assumption) ?d1); (case d1 => walk_at "da")))
local macro_rules | `(tactic| walk_at "xt") => `(tactic| first
  | assumption
  | (refine' Xt.trans ?x1 (by assumption); (case x1 => walk_at "xt")))
local macro_rules | `(tactic| walk_at "w") => `(tactic| first
  | assumption
  | exact Xt.w2 (by assumption)
  | exact Xt.w1 (by assumption))
local macro_rules | `(tactic| walk_at "side") => `(tactic| first
  | assumption
  | (refine' B.cmul ?b1 ?b2 ?b3; (case b1 => walk_at "bd"); (case b2 => walk_at "bd"); (case b3 => first | decide | omega))
  | (refine' B.cdiv ?b1 ?b2 ?b3; (case b1 => assumption); (case b2 => walk_at "bd"); (case b3 => first | decide | omega)))
local macro_rules | `(tactic| walk_at "ea") => `(tactic| first
  | with_reducible exact ea_nil
  | ((with_reducible refine' ea_cons ?p1 ?p2); (case p1 => walk_at "ev"); (case p2 => walk_at "ea")))
local macro_rules | `(tactic| walk_at "et") => `(tactic| first
  | ((with_reducible refine' et_and ?p1 ?p2); (case p1 => walk_at "et"); (case p2 => intro _; walk_at "et"))
  | ((with_reducible refine' et_or ?p1 ?p2); (case p1 => walk_at "et"); (case p2 => intro _; walk_at "et"))
  | ((with_reducible refine' et_not ?p1); (case p1 => walk_at "et"))
  | ((with_reducible refine' et_test ?p1); (case p1 => walk_at "ev"))
  | ((with_reducible refine' et_B ?p1); (case p1 => walk_at "ev")))
local macro_rules | `(tactic| walk_at "ev") => `(tactic| first
  | with_reducible exact ev_c
  | ((with_reducible refine' ev_var ?v1); (case v1 => exact rfl))
  | ((with_reducible refine' ev_px ?p1 ?p2 ?p3); (case p1 => walk_at "ev"); (case p2 => walk_at "da"); (case p3 => with_reducible exact ev_c))
  | ((with_reducible refine' ev_py ?p1 ?p2 ?p3); (case p1 => walk_at "ev"); (case p2 => walk_at "da"); (case p3 => with_reducible exact ev_c))
  | ((with_reducible refine' ev_pw ?p1 ?p2 ?p3); (case p1 => walk_at "ev"); (case p2 => walk_at "da"); (case p3 => with_reducible exact ev_c))
  | ((with_reducible refine' ev_ixT ?p1 ?p2 ?p3 ?p4); (case p1 => walk_at "ev"); (case p2 => walk_at "da"); (case p3 => walk_at "ev"); (case p4 => first | exact rfl | assumption))
  | ((with_reducible refine' ev_ixL ?p1 ?p2 ?p3 ?p4); (case p1 => walk_at "ev"); (case p2 => walk_at "da"); (case p3 => walk_at "ev"); (case p4 => first | exact rfl | assumption))
  | ((with_reducible refine' ev_i0 ?p1 ?p2); (case p1 => walk_at "ev"); (case p2 => walk_at "ev"))
  | ((with_reducible refine' ev_iC ?p1 ?p2 ?p3); (case p1 => walk_at "ev"); (case p2 => walk_at "ev"); (case p3 => walk_at "side"))
  | ((with_reducible refine' ev_neg ?p1); (case p1 => walk_at "ev"))
  | ((with_reducible refine' ev_eq ?p1 ?p2 ?p3); (case p1 => walk_at "ev"); (case p2 => walk_at "ev"); (case p3 => exact rfl))
  | ((with_reducible refine' ev_ne ?p1 ?p2 ?p3); (case p1 => walk_at "ev"); (case p2 => walk_at "ev"); (case p3 => exact rfl))
  | ((with_reducible refine' ev_andV ?p1 ?p2); (case p1 => walk_at "ev"); (case p2 => intro _; walk_at "ev"))
  | ((with_reducible refine' ev_orV ?p1 ?p2); (case p1 => walk_at "ev"); (case p2 => intro _; walk_at "ev"))
  | ((with_reducible refine' ev_notV ?p1); (case p1 => walk_at "ev"))
  | ((with_reducible refine' ev_subB ?p1 ?p2); (case p1 => walk_at "ev"); (case p2 => walk_at "ev"))
  | ((with_reducible refine' ev_chI ?p1 ?p2 ?p3); (case p1 => walk_at "ev"); (case p2 => walk_at "ev"); (case p3 => walk_at "ev"))
  | ((with_reducible refine' ev_isInt ?p1 ?p2); (case p1 => walk_at "ev"); (case p2 => walk_at "da"))
  | ((with_reducible refine' ev_isBool ?p1 ?p2); (case p1 => walk_at "ev"); (case p2 => walk_at "da"))
  | ((with_reducible refine' ev_isStr ?p1 ?p2); (case p1 => walk_at "ev"); (case p2 => walk_at "da"))
  | ((with_reducible refine' ev_isTup ?p1 ?p2); (case p1 => walk_at "ev"); (case p2 => walk_at "da"))
  | ((with_reducible refine' ev_isLst ?p1 ?p2); (case p1 => walk_at "ev"); (case p2 => walk_at "da"))
  | ((with_reducible refine' ev_isTL ?p1 ?p2); (case p1 => walk_at "ev"); (case p2 => walk_at "da"))
  | ((with_reducible refine' ev_lenT ?p1 ?p2); (case p1 => walk_at "ev"); (case p2 => walk_at "da"))
  | ((with_reducible refine' ev_lenL ?p1 ?p2); (case p1 => walk_at "ev"); (case p2 => walk_at "da"))
  | ((with_reducible refine' ev_abs ?p1); (case p1 => walk_at "ev"))
  | ((with_reducible refine' ev_min2 ?p1 ?p2); (case p1 => walk_at "ev"); (case p2 => walk_at "ev"))
  | ((with_reducible refine' ev_int1 ?p1); (case p1 => walk_at "ev"))
  | ((with_reducible refine' ev_isN ?p1); (case p1 => walk_at "ev"))
  | ((with_reducible refine' ev_notN ?p1); (case p1 => walk_at "ev"))
  | ((with_reducible refine' ev_sign ?p1); (case p1 => walk_at "ev"))
  | ((with_reducible refine' ev_gcd ?p1 ?p2); (case p1 => walk_at "ev"); (case p2 => walk_at "ev"))
  | ((with_reducible refine' ev_is_in ?p1 ?p2 ?p3 ?p4); (case p1 => walk_at "ev"); (case p2 => walk_at "da"); (case p3 => walk_at "ev"); (case p4 => walk_at "ev"))
  | ((with_reducible refine' ev_doubled ?p1 ?p2 ?p3 ?p4 ?p5 ?p6 ?p7 ?p8 ?p9); (case p1 => walk_at "ev"); (case p2 => walk_at "ev"); (case p3 => walk_at "ev"); (case p4 => walk_at "da"); (case p5 => walk_at "da"); (case p6 => walk_at "da"); (case p7 => assumption); (case p8 => assumption); (case p9 => assumption))
  | ((with_reducible refine' ev_order_of ?p1 ?p2 ?p3 ?p4 ?p5 ?p6); (case p1 => walk_at "ev"); (case p2 => walk_at "ev"); (case p3 => walk_at "da"); (case p4 => walk_at "da"); (case p5 => assumption); (case p6 => assumption))
  | ((with_reducible refine' ev_turn_of ?p1 ?p2 ?p3 ?p4 ?p5 ?p6 ?p7 ?p8 ?p9); (case p1 => walk_at "ev"); (case p2 => walk_at "ev"); (case p3 => walk_at "ev"); (case p4 => walk_at "da"); (case p5 => walk_at "da"); (case p6 => walk_at "da"); (case p7 => assumption); (case p8 => assumption); (case p9 => assumption))
  | ((with_reducible refine' ev_is_between ?p1 ?p2 ?p3 ?p4 ?p5 ?p6 ?p7 ?p8 ?p9); (case p1 => walk_at "ev"); (case p2 => walk_at "ev"); (case p3 => walk_at "ev"); (case p4 => walk_at "da"); (case p5 => walk_at "da"); (case p6 => walk_at "da"); (case p7 => assumption); (case p8 => assumption); (case p9 => assumption)))
section
variable {P : Program} {w : World} {K : PySem.W.Frag} {mg : Str → Option Value} {base : Heap}
theorem q_setL {Z : Wd} {σ : L2.St} {H : Hp} {ta tb te : TE} {D : Ends} {tz : TS} {R : Rl} {l : Addr} {xs : List V} {j : Nat} {i : Int} (w : Z.W H) (hl : H l = some (.lst xs)) (nl : ¬ Z.S l) (h : Ev Z te σ H R) (ho : Ev Z ta σ H (IsV (.ref l))) (hi : Ev Z tb σ H (IsV (.int i))) (hj : ixN xs.length i = some j) (k : ∀ v H1 H3, Xt Z H H1 → Xt Z H1 H3 → R v H1 → H3 l = some (.lst xs) → tz D σ (upd H3 l (.lst (xs.set j v)))) :
    tSeq (tAsg te (gSub ta tb rSetL)) tz D σ H := s_setL (D := { D with nx := tz D }) w hl nl h ho hi hj k
section
variable {Z : Wd} {σ : L2.St} {H : Hp} {ta tb : TE} {sa : Addr} {vs : List V} {v : V}
theorem ev_lenQ (ha : Ev Z ta σ H (IsV (.ref sa))) (hs : ∀ H1, Xt Z H H1 → SqL K H1 sa vs) : Ev Z (tCB (rLen K) (tCons ta tNil)) σ H (IsV (.int (vs.length : Int))) :=
  ev_cb (ea_cons ha ea_nil) fun H1 e Q q => ⟨sa, vs, rfl, .inl (hs H1 e), q _ H1 (.refl e.w2) rfl⟩
theorem ev_ixQ {i : Int} (ha : Ev Z ta σ H (IsV (.ref sa))) (hs : ∀ H1, Xt Z H H1 → SqL K H1 sa vs) (hb : Ev Z tb σ H (IsV (.int i))) (hi : atI vs i = some v) : Ev Z (tOp (rIxL K) ta tb) σ H (IsV v) := ev_op ha hb fun H1 e Q q =>
  ⟨sa, vs, i, v, rfl, rfl, hs H1 e, hi, q v H1 (.refl e.w2) rfl⟩
end
/-! worlds with tables, with a row of draws -/
def Zt (T : List (Addr × Str)) : Wd where
  S := fun a => ∃ q ∈ T, a = q.1
  W := LamX.Tabs T
  live := by
    rintro H a h ⟨q, hq, e⟩
    obtain ⟨ps, h1, _⟩ := h q hq
    rw [e, h1]
    exact fun z => nomatch z
  keep := by
    intro H H' h k q hq
    obtain ⟨ps, h1, h2, h3⟩ := h q hq
    refine ⟨ps, k _ _ (.inl ⟨q, hq, rfl⟩) h1, h2, fun pos cv hc => ?_⟩
    obtain ⟨c, e1, e2⟩ := h3 pos cv hc
    exact ⟨c, e1, k _ _ (.inr ⟨_, rfl⟩) e2⟩
theorem Zt.tab (T : List (Addr × Str)) : TabW (Zt T) T := ⟨fun h => h, fun _ _ h => h⟩
/-- the script: a list as it stands, or one that is not tracked -/
structure Scr (K : PySem.W.Frag) (sa : Addr) where
  ns : List Int
  so : Option HO
  ok : ∀ H : Hp, (∀ o, so = some o → H sa = some o) → SqL K H sa (ns.map V.int)
  nt : ∀ o, so = some o → ∀ ps, o ≠ .tbl ps
structure Tb (K : PySem.W.Frag) where
  t : List (Addr × Str)
def tbx (T : Tx K mg) : Tb K := ⟨tabs T⟩
def Row (ra sa : Addr) (ns : Scr K sa) (H : Hp) : Prop := (ns.so ≠ none → ra ≠ sa) ∧ (∀ o, ns.so = some o → H sa = some o) ∧ ∃ i sd rest : Int, 0 ≤ i ∧ 0 ≤ sd ∧ sd < 2147483647 ∧ H ra = some (.lst [.ref sa, .int i, .int sd, .int rest])
def Zr (T : Tb K) (ra sa : Addr) (ns : Scr K sa) : Wd where
  S := fun a => (∃ q ∈ T.t, a = q.1) ∨ a = ra ∨ (a = sa ∧ ns.so ≠ none)
  W := fun H => LamX.Tabs T.t H ∧ Row ra sa ns H
  live := by
    rintro H a h (s | rfl | ⟨rfl, s⟩)
    · exact (Zt T.t).live h.1 s
    · obtain ⟨_, _, _, _, _, _, _, _, h⟩ := h.2
      rw [h]
      exact fun z => nomatch z
    · cases e : ns.so with
      | none => exact absurd e s
      | some o =>
        rw [h.2.2.1 o e]
        exact fun z => nomatch z
  keep := by
    intro H H' h k
    refine ⟨(Zt T.t).keep h.1 fun a o s q => k a o (s.elim (fun s => .inl (.inl s)) .inr) q, h.2.1, fun o e => k _ _ (.inl (.inr (.inr ⟨rfl, by rw [e]; exact fun z => nomatch z⟩))) (h.2.2.1 o e), ?_⟩
    obtain ⟨_, _, i, sd, rest, h1, h2, h3, h4⟩ := h.2
    exact ⟨i, sd, rest, h1, h2, h3, k _ _ (.inl (.inr (.inl rfl))) h4⟩
section
variable {T : Tb K} {ra sa : Addr} {ns : Scr K sa} {H H' : Hp}
theorem Zr.nra (h : (Zr T ra sa ns).W H) : ¬ (Zt T.t).S ra := fun ⟨q, hq, e⟩ => by
  obtain ⟨ps, h1, _⟩ := h.1 q hq
  obtain ⟨_, _, _, _, _, _, _, _, h2⟩ := h.2
  rw [← e, h2] at h1
  cases h1
theorem Zr.nsa (h : (Zr T ra sa ns).W H) {o : HO} (ho : ns.so = some o) : ¬ (Zt T.t).S sa := fun ⟨q, hq, e⟩ => by
  obtain ⟨ps, h1, _⟩ := h.1 q hq
  rw [← e, h.2.2.1 o ho] at h1
  cases h1
  exact ns.nt _ ho _ rfl
theorem Zr.tab (T : Tb K) (ra sa : Addr) (ns : Scr K sa) : TabW (Zr T ra sa ns) T.t := ⟨fun h => h.1, fun {H H'} h e t => by
  obtain ⟨h0, hs, i, sd, rest, h1, h2, h3, h4⟩ := h.2
  exact ⟨t, h0, fun o ho => e _ _ (hs o ho) (ns.nt o ho), i, sd, rest, h1, h2, h3, e _ _ h4 (fun _ z => nomatch z)⟩⟩
theorem Zr.conv (h : (Zr T ra sa ns).W H) (e : Xt (Zt T.t) H H') : Xt (Zr T ra sa ns) H H' := by
  obtain ⟨h0, hs, i, sd, rest, h1, h2, h3, h4⟩ := id h.2
  exact ⟨h, ⟨e.w2, h0, fun o ho => e.kq _ _ (Zr.nsa h ho) (ns.nt o ho) (hs o ho), i, sd, rest, h1, h2, h3, e.kp _ _ (Zr.nra h) h4⟩, fun a o n t q => e.kq a o (fun s => n (.inl s)) t q⟩
theorem Zr.put (h : (Zr T ra sa ns).W H) {i sd rest : Int} (h1 : 0 ≤ i) (h2 : 0 ≤ sd) (h3 : sd < 2147483647) : Xt (Zr T ra sa ns) H (upd H ra (.lst [.ref sa, .int i, .int sd, .int rest])) := by
  obtain ⟨h0, hs, _, _, _, _, _, _, h4⟩ := id h.2
  refine ⟨h, ⟨(Zt T.t).keep h.1 fun a o s q => ?_, h0, fun o ho => ?_, i, sd, rest, h1, h2, h3, upd_same⟩, fun a o n t q => ?_⟩
  · have : a ≠ ra := fun z => by
      subst z
      rcases s with s | ⟨φ, rfl⟩
      · exact Zr.nra h s
      · rw [h4] at q
        cases q
    rw [upd_ne this]
    exact q
  · rw [upd_ne (Ne.symm (h0 (by rw [ho]; exact fun z => nomatch z)))]
    exact hs o ho
  · rw [upd_ne (fun z => n (.inr (.inl z)))]
    exact q
end
/-! the next draw -/
def DrR (n : Int) : Rl := fun x _ => ∃ k : Int, x = .int k ∧ 0 ≤ k ∧ k < n
def G_l_taken (T : Tb K) : Gv := fun Z vs H R => ∃ ra sa ns n, Z = Zr T ra sa ns ∧ vs = [.ref ra, .int n] ∧ 1 ≤ n ∧ B 64 n ∧ R = DrR n
theorem fmod_range (a : Int) {n : Int} (h : 1 ≤ n) : 0 ≤ a.fmod n ∧ a.fmod n < n := by
  rw [Int.fmod_eq_emod_of_nonneg a (by omega)]
  exact ⟨Int.emod_nonneg a (by omega), Int.emod_lt_of_pos a (by omega)⟩
theorem ok_l_taken (T : Tx K mg) : FnOk P w K mg base CX0 1 T.f_l_taken T.d_l_taken ["_law_row", "_law_many"] (spOf (G_l_taken (tbx T))) := by
  refine T.F_l_taken.ok sc_l_taken (fun vs H Q E h => ?_) (fun cdv A outer s H vs Q E hr h => ?_)
  · obtain ⟨Z, R, _, ⟨ra, sa, ns, n, _, rfl, _⟩, _⟩ := h
    rfl
  obtain ⟨_, R, hw, ⟨ra, sa, ns, n, rfl, rfl, hn, bn, rfl⟩, hq⟩ := h
  refine ⟨_, (pss_cons (ps_if (pt_cmpR op_gt (pe_ix ix_list (pv 0) pe_int (fun _ _ => rfl)) pe_int (nomark _))
  (pss_cons (ps_set (i := 3) sc_l_taken.nd rfl (Or.inl rfl) (pe_op op_modN (pe_callTy call_int1 (by rfl) T.z_int (by decide +kernel) (pa_cons (pe_ix ix_list (pv 0) pe_int (fun _ _ => rfl)) pa_nil)) (pv 1)))
    (pss_cons (ps_asg (pe_op op_fdivA (pe_ix ix_list (pv 0) pe_int (fun _ _ => rfl)) (pv 1)) (pg_sub (pv 0) pe_int set_list))
    (pss_one (ps_ret (pv 3)))))
  pss_nil)
  (pss_cons (ps_asg (pe_op op_add (pe_ix ix_list (pv 0) pe_int (fun _ _ => rfl)) pe_int) (pg_sub (pv 0) pe_int set_list))
  (pss_cons (ps_if (pt_cmpR op_gt (pe_ix ix_list (pv 0) pe_int (fun _ _ => rfl)) (pe_callB call_len_seq (by rfl) T.z_len (by decide +kernel) (pa_cons (pe_ix ix_list (pv 0) pe_int (fun _ _ => rfl)) pa_nil)) (nomark _))
  (pss_cons (ps_asg (pe_op op_modN (pe_callTy call_int1 (by rfl) T.z_int (by decide +kernel) (pa_cons (pe_op op_add (pe_op op_mulW (pe_ix ix_list (pv 0) pe_int (fun _ _ => rfl)) pe_int) pe_int) pa_nil)) pe_int) (pg_sub (pv 0) pe_int set_list))
    (pss_one (ps_ret (pe_op op_modN (pe_callTy call_int1 (by rfl) T.z_int (by decide +kernel) (pa_cons (pe_op op_fdivA (pe_ix ix_list (pv 0) pe_int (fun _ _ => rfl)) pe_int) pa_nil)) (pv 1)))))
  pss_nil)
  (pss_cons (ps_set (i := 2) sc_l_taken.nd rfl (Or.inl rfl) (pe_ix ix_list (pe_ix ix_list (pv 0) pe_int (fun _ _ => rfl)) (pe_op op_sub (pe_ix ix_list (pv 0) pe_int (fun _ _ => rfl)) pe_int) (fun _ _ => rfl)))
  (pss_cons (ps_asg (pe_op op_modN (pe_callTy call_int1 (by rfl) T.z_int (by decide +kernel) (pa_cons (pe_op op_add (pe_op op_add (pe_op op_mulW (pe_ix ix_list (pv 0) pe_int (fun _ _ => rfl)) pe_int) (pv 2)) pe_int) pa_nil)) pe_int) (pg_sub (pv 0) pe_int set_list))
  (pss_cons (ps_if (pt_cmpR op_ge (pv 2) (pe_op op_pow pe_int pe_int) (nomark _))
  (pss_one (ps_asg (pe_op op_fdivA (pv 2) (pv 1)) (pg_sub (pv 0) pe_int set_list)))
  pss_nil)
  (pss_one (ps_ret (pe_op op_modN (pe_callTy call_int1 (by rfl) T.z_int (by decide +kernel) (pa_cons (pv 2) pa_nil)) (pv 1)))))))))), ?_⟩
  rw [show L2.start nm_l_taken [(.ref ra), (.int n)] = [some (.ref ra), some (.int n), none, none] from rfl]
  generalize tbx T = TT at *
  obtain ⟨h0, hs, i, sd, rest, i0, sd0, sd1, hra⟩ := id hw.2
  have nra := Zr.nra hw
  have hn0 : n ≠ 0 := by omega
  have cd : ∀ a, CDivA a n := fun a => B.cdiv hn0 bn (by decide)
  have Lr : ∀ {H1 xs}, H1 ra = some (.lst xs) → LiR (Zt TT.t) xs (.ref ra) H1 := fun {H1 xs} h => ⟨ra, rfl, h, nra⟩
  have hl0 := Lr hra
  have w0 : (Zt TT.t).W H := hw.1
  refine q_when (Z := Zt TT.t) (by walk_at "w") (by walk_at "et") (fun hb H1 e1 => ?_) (fun hb H1 e1 => ?_)
  · have hl1 := hl0.mono e1
    refine q_asg (Z := Zt TT.t) (by walk_at "w") (ev_iC (ev_int1 (by walk_at "ev")) (by walk_at "ev") hn0) fun v2 H2 e2 r2 => ?_
    subst r2
    have e12 := e1.trans e2
    have hl2 := hl1.mono e2
    have c2 := cd rest
    refine q_setL (Z := Zt TT.t) (l := ra) (xs := [.ref sa, .int i, .int sd, .int rest]) (j := 3) (by walk_at "w") (e12.kp _ _ nra hra) nra (ev_iC (by walk_at "ev") (by walk_at "ev") c2) (by walk_at "ev") ev_c rfl fun v3 H3 H4 e3 e4 r3 hra4 => ?_
    subst r3
    have x14 := Zr.conv hw (e12.trans (e3.trans e4))
    have x5 := x14.trans (Zr.put x14.w2 (i := i) (sd := sd) (rest := rest.fdiv n) i0 sd0 sd1)
    refine s_ret (Z := Zr TT ra sa ns) x5.w2 (ev_var rfl) fun v6 H6 e6 r6 => hq _ _ (x5.trans e6) ⟨_, r6, fmod_range _ hn⟩
  · have hl1 := hl0.mono e1
    refine q_setL (Z := Zt TT.t) (l := ra) (xs := [.ref sa, .int i, .int sd, .int rest]) (j := 1) (by walk_at "w") (e1.kp _ _ nra hra) nra (ev_i0 (by walk_at "ev") ev_c) (by walk_at "ev") ev_c rfl fun v2 H2 H3 e2 e3 r2 hra3 => ?_
    subst r2
    have x3 := Zr.conv hw (e1.trans (e2.trans e3))
    have x4 := x3.trans (Zr.put x3.w2 (i := i + 1) (sd := sd) (rest := rest) (by omega) sd0 sd1)
    show tSeq _ _ _ _ (upd H3 ra (.lst [.ref sa, .int (i + 1), .int sd, .int rest]))
    have hra4 : (upd H3 ra (.lst [.ref sa, .int (i + 1), .int sd, .int rest])) ra = some (.lst [.ref sa, .int (i + 1), .int sd, .int rest]) := upd_same
    generalize upd H3 ra (.lst [.ref sa, .int (i + 1), .int sd, .int rest]) = H4 at *
    have hs4 : ∀ {H5}, Xt (Zt TT.t) H4 H5 → SqL K H5 sa (ns.ns.map V.int) := fun {H5} e5 => ns.ok H5 fun o ho => (Zr.conv x4.w2 e5).w2.2.2.1 o ho
    have hl4 := Lr hra4
    have w4 : (Zt TT.t).W H4 := x4.w2.1
    have bsd : B 64 sd := by unfold B; omega
    have cm : CMulW sd 48271 := B.cmul bsd (show B 64 48271 by unfold B; decide) (by decide)
    have hm0 : (2147483647 : Int) ≠ 0 := by decide
    refine q_when (Z := Zt TT.t) (b := decide (((ns.ns.map V.int).length : Int) < i + 1)) w4 (et_is (et_test (ev_i0 (by walk_at "ev") (ev_lenQ (by walk_at "ev") (fun H5 e5 => hs4 e5)))) rfl) (fun hb H5 e5 => ?_) (fun hb H5 e5 => ?_)
    · have hl5 := hl4.mono e5
      refine q_setL (Z := Zt TT.t) (l := ra) (xs := [.ref sa, .int (i + 1), .int sd, .int rest]) (j := 2) (by walk_at "w") (e5.kp _ _ nra hra4) nra (ev_iC (ev_int1 (ev_i0 (ev_iC (by walk_at "ev") ev_c cm) ev_c)) ev_c hm0) (by walk_at "ev") ev_c rfl fun v6 H6 H7 e6 e7 r6 hra7 => ?_
      subst r6
      have x7 := x4.trans (Zr.conv x4.w2 (e5.trans (e6.trans e7)))
      obtain ⟨m1, m2⟩ := fmod_range (sd * 48271 + 11) (n := 2147483647) (by decide)
      have x8 := x7.trans (Zr.put x7.w2 (i := i + 1) (sd := (sd * 48271 + 11).fmod 2147483647) (rest := rest) (by omega) m1 m2)
      show tRet _ _ _ (upd H7 ra (.lst [.ref sa, .int (i + 1), .int ((sd * 48271 + 11).fmod 2147483647), .int rest]))
      have hra8 : (upd H7 ra (.lst [.ref sa, .int (i + 1), .int ((sd * 48271 + 11).fmod 2147483647), .int rest])) ra = some (.lst [.ref sa, .int (i + 1), .int ((sd * 48271 + 11).fmod 2147483647), .int rest]) := upd_same
      generalize upd H7 ra (.lst [.ref sa, .int (i + 1), .int ((sd * 48271 + 11).fmod 2147483647), .int rest]) = H8 at *
      have hl8 := Lr hra8
      have c7 : CDivA ((sd * 48271 + 11).fmod 2147483647) 7 := B.cdiv (by decide) (show B 64 7 by unfold B; decide) (by decide)
      refine s_ret (Z := Zt TT.t) x8.w2.1 (ev_iC (ev_int1 (ev_iC (by walk_at "ev") ev_c c7)) (by walk_at "ev") hn0) fun v9 H9 e9 r9 => hq _ _ (x8.trans (Zr.conv x8.w2 e9)) ⟨_, r9, fmod_range _ hn⟩
    · have hb := of_decide_eq_false hb
      have hl5 := hl4.mono e5
      obtain ⟨c, hc⟩ : ∃ c, atI (ns.ns.map V.int) (i + 1 - 1) = some (.int c) := by
        have hi : i.toNat < ns.ns.length := by
          rw [List.length_map] at hb
          omega
        refine ⟨ns.ns[i.toNat], ?_⟩
        rw [show i + 1 - 1 = (i.toNat : Int) by omega]
        refine atI_nat ?_
        rw [List.getElem?_map, List.getElem?_eq_getElem hi]
        rfl
      refine q_asg (Z := Zt TT.t) (by walk_at "w") (ev_ixQ (by walk_at "ev") (fun H6 e6 => hs4 (e5.trans e6)) (ev_i0 (by walk_at "ev") ev_c) hc) fun v6 H6 e6 r6 => ?_
      subst r6
      have e56 := e5.trans e6
      have hl6 := hl4.mono e56
      refine q_setL (Z := Zt TT.t) (l := ra) (xs := [.ref sa, .int (i + 1), .int sd, .int rest]) (j := 2) (by walk_at "w") (e56.kp _ _ nra hra4) nra (ev_iC (ev_int1 (ev_i0 (ev_i0 (ev_iC (by walk_at "ev") ev_c cm) (by walk_at "ev")) ev_c)) ev_c hm0) (by walk_at "ev") ev_c rfl fun v7 H7 H8 e7 e8 r7 hra8 => ?_
      subst r7
      have x8 := x4.trans (Zr.conv x4.w2 (e56.trans (e7.trans e8)))
      obtain ⟨m1, m2⟩ := fmod_range (sd * 48271 + c + 11) (n := 2147483647) (by decide)
      have x9 := x8.trans (Zr.put x8.w2 (i := i + 1) (sd := (sd * 48271 + c + 11).fmod 2147483647) (rest := rest) (by omega) m1 m2)
      show tSeq _ _ _ _ (upd H8 ra (.lst [.ref sa, .int (i + 1), .int ((sd * 48271 + c + 11).fmod 2147483647), .int rest]))
      have hra9 : (upd H8 ra (.lst [.ref sa, .int (i + 1), .int ((sd * 48271 + c + 11).fmod 2147483647), .int rest])) ra = some (.lst [.ref sa, .int (i + 1), .int ((sd * 48271 + c + 11).fmod 2147483647), .int rest]) := upd_same
      generalize upd H8 ra (.lst [.ref sa, .int (i + 1), .int ((sd * 48271 + c + 11).fmod 2147483647), .int rest]) = H9 at *
      have hl9 := Lr hra9
      have fin : ∀ H10, Xt (Zr TT ra sa ns) H H10 → tRet (tOp (rI (fun _ j => j ≠ 0) fun i j => .int (i.fmod j)) (tCB rInt1 (tCons (tVar 2) tNil)) (tVar 1)) { nx := fun _ H' => Q .non H', rt := Q } [some (.ref ra), some (.int n), some (.int c), none] H10 := fun H10 x10 =>
        s_ret (Z := Zr TT ra sa ns) x10.w2 (ev_iC (ev_int1 (by walk_at "ev")) (by walk_at "ev") hn0) fun v9 H9 e9 r9 => hq _ _ (x10.trans e9) ⟨_, r9, fmod_range _ hn⟩
      have cp : CPow 10 18 := by unfold CPow; decide
      refine q_when (Z := Zt TT.t) x9.w2.1 (et_test (ev_i0 (by walk_at "ev") (ev_iC ev_c ev_c cp))) (fun hb H10 e10 => ?_) (fun hb H10 e10 => fin _ (x9.trans (Zr.conv x9.w2 e10)))
      have cc := cd c
      refine s_setL (Z := Zt TT.t) (l := ra) (xs := [.ref sa, .int (i + 1), .int ((sd * 48271 + c + 11).fmod 2147483647), .int rest]) (j := 3) (by walk_at "w") (e10.kp _ _ nra hra9) nra (ev_iC (by walk_at "ev") (by walk_at "ev") cc) (by walk_at "ev") ev_c rfl fun v11 H11 H12 e11 e12 r11 hra12 => ?_
      subst r11
      have x12 := x9.trans (Zr.conv x9.w2 (e10.trans (e11.trans e12)))
      exact fin _ (x12.trans (Zr.put x12.w2 (i := i + 1) (sd := (sd * 48271 + c + 11).fmod 2147483647) (rest := c.fdiv n) (by omega) m1 m2))
section
variable {TT : Tb K} {ra sa : Addr} {ns : Scr K sa} {σ : L2.St} {H : Hp} {ta tb tc : TE} {E : XK}
theorem ev_taken {n : Int} (h1 : Ev (Zr TT ra sa ns) ta σ H (IsV (.ref ra))) (h2 : Ev (Zr TT ra sa ns) tb σ H (IsV (.int n))) (hn : 1 ≤ n) (bn : B 64 n) : Ev (Zr TT ra sa ns) (tCall (spOf (G_l_taken TT)) [] E (tCons ta (tCons tb tNil))) σ H (DrR n) :=
  ev_call (ea_cons h1 (ea_cons h2 ea_nil)) fun H1 e => ⟨ra, sa, ns, n, rfl, rfl, hn, bn, rfl⟩
end
end
end Hk
/-! ## F19 -/
namespace Hk
open PySem PySem.Spec PyProof.Rows L2
local macro_rules | `(tactic| walk_at "bd") => `(tactic| first
  | assumption
  | exact (show B 64 _ from by unfold B; decide)
  | (refine' B.mul ?b1 ?b2; (case b1 => walk_at "bd"); (case b2 => walk_at "bd"))
  | (refine' B.sub ?b1 ?b2; (case b1 => walk_at "bd"); (case b2 => walk_at "bd"))
  | (refine' B.add ?b1 ?b2; (case b1 => walk_at "bd"); (case b2 => walk_at "bd"))
  | (refine' B.neg ?b1; (case b1 => walk_at "bd")))
local macro_rules | `(tactic| walk_at "da") => `(tactic| first
  | assumption
  | exact Da.int _
  | exact Da.non
  | exact Da.bl _
  | exact Da.str _
  | ((with_reducible refine' P3.mono (by assumption) ?d1); (case d1 => walk_at "da"))
  | ((with_reducible refine' Ra.mono (by assumption) ?d1); (case d1 => walk_at "da"))
  | ((with_reducible refine' TuR.mono (by assumption) ?d1); (case d1 => walk_at "da"))
  | ((with_reducible refine' LiR.mono (by assumption) ?d1); (case d1 => walk_at "da"))
  | ((with_reducible refine' Da.mono (by assumption) ?d1); (case d1 => walk_at "da")))
local macro_rules | `(tactic| walk_at "xt") => `(tactic| first
  | assumption
  | (refine' Xt.trans ?x1 (by assumption); (case x1 => walk_at "xt")))
local macro_rules | `(tactic| walk_at "w") => `(tactic| first
  | assumption
  | exact Xt.w2 (by assumption)
  | exact Xt.w1 (by assumption))
local macro_rules | `(tactic| walk_at "side") => `(tactic| first
  | assumption
  | (refine' B.cmul ?b1 ?b2 ?b3; (case b1 => walk_at "bd"); (case b2 => walk_at "bd"); (case b3 => first | decide | omega))
  | (refine' B.cdiv ?b1 ?b2 ?b3; (case b1 => assumption); (case b2 => walk_at "bd"); (case b3 => first | decide | omega)))
local macro_rules | `(tactic| walk_at "ea") => `(tactic| first
  | with_reducible exact ea_nil
  | ((with_reducible refine' ea_cons ?p1 ?p2); (case p1 => walk_at "ev"); (case p2 => walk_at "ea")))
local macro_rules | `(tactic| walk_at "et") => `(tactic| first
  | ((with_reducible refine' et_and ?p1 ?p2); (case p1 => walk_at "et"); (case p2 => intro _; walk_at "et"))
  | ((with_reducible refine' et_or ?p1 ?p2); (case p1 => walk_at "et"); (case p2 => intro _; walk_at "et"))
  | ((with_reducible refine' et_not ?p1); (case p1 => walk_at "et"))
  | ((with_reducible refine' et_test ?p1); (case p1 => walk_at "ev"))
  | ((with_reducible refine' et_B ?p1); (case p1 => walk_at "ev")))
local macro_rules | `(tactic| walk_at "ev") => `(tactic| first
  | with_reducible exact ev_c
  | ((with_reducible refine' ev_var ?v1); (case v1 => exact rfl))
  | ((with_reducible refine' ev_px ?p1 ?p2 ?p3); (case p1 => walk_at "ev"); (case p2 => walk_at "da"); (case p3 => with_reducible exact ev_c))
  | ((with_reducible refine' ev_py ?p1 ?p2 ?p3); (case p1 => walk_at "ev"); (case p2 => walk_at "da"); (case p3 => with_reducible exact ev_c))
  | ((with_reducible refine' ev_pw ?p1 ?p2 ?p3); (case p1 => walk_at "ev"); (case p2 => walk_at "da"); (case p3 => with_reducible exact ev_c))
  | ((with_reducible refine' ev_ixT ?p1 ?p2 ?p3 ?p4); (case p1 => walk_at "ev"); (case p2 => walk_at "da"); (case p3 => walk_at "ev"); (case p4 => first | exact rfl | assumption))
  | ((with_reducible refine' ev_ixL ?p1 ?p2 ?p3 ?p4); (case p1 => walk_at "ev"); (case p2 => walk_at "da"); (case p3 => walk_at "ev"); (case p4 => first | exact rfl | assumption))
  | ((with_reducible refine' ev_i0 ?p1 ?p2); (case p1 => walk_at "ev"); (case p2 => walk_at "ev"))
  | ((with_reducible refine' ev_iC ?p1 ?p2 ?p3); (case p1 => walk_at "ev"); (case p2 => walk_at "ev"); (case p3 => walk_at "side"))
  | ((with_reducible refine' ev_neg ?p1); (case p1 => walk_at "ev"))
  | ((with_reducible refine' ev_eq ?p1 ?p2 ?p3); (case p1 => walk_at "ev"); (case p2 => walk_at "ev"); (case p3 => exact rfl))
  | ((with_reducible refine' ev_ne ?p1 ?p2 ?p3); (case p1 => walk_at "ev"); (case p2 => walk_at "ev"); (case p3 => exact rfl))
  | ((with_reducible refine' ev_andV ?p1 ?p2); (case p1 => walk_at "ev"); (case p2 => intro _; walk_at "ev"))
  | ((with_reducible refine' ev_orV ?p1 ?p2); (case p1 => walk_at "ev"); (case p2 => intro _; walk_at "ev"))
  | ((with_reducible refine' ev_notV ?p1); (case p1 => walk_at "ev"))
  | ((with_reducible refine' ev_subB ?p1 ?p2); (case p1 => walk_at "ev"); (case p2 => walk_at "ev"))
  | ((with_reducible refine' ev_chI ?p1 ?p2 ?p3); (case p1 => walk_at "ev"); (case p2 => walk_at "ev"); (case p3 => walk_at "ev"))
  | ((with_reducible refine' ev_isInt ?p1 ?p2); (case p1 => walk_at "ev"); (case p2 => walk_at "da"))
  | ((with_reducible refine' ev_isBool ?p1 ?p2); (case p1 => walk_at "ev"); (case p2 => walk_at "da"))
  | ((with_reducible refine' ev_isStr ?p1 ?p2); (case p1 => walk_at "ev"); (case p2 => walk_at "da"))
  | ((with_reducible refine' ev_isTup ?p1 ?p2); (case p1 => walk_at "ev"); (case p2 => walk_at "da"))
  | ((with_reducible refine' ev_isLst ?p1 ?p2); (case p1 => walk_at "ev"); (case p2 => walk_at "da"))
  | ((with_reducible refine' ev_isTL ?p1 ?p2); (case p1 => walk_at "ev"); (case p2 => walk_at "da"))
  | ((with_reducible refine' ev_lenT ?p1 ?p2); (case p1 => walk_at "ev"); (case p2 => walk_at "da"))
  | ((with_reducible refine' ev_lenL ?p1 ?p2); (case p1 => walk_at "ev"); (case p2 => walk_at "da"))
  | ((with_reducible refine' ev_abs ?p1); (case p1 => walk_at "ev"))
  | ((with_reducible refine' ev_min2 ?p1 ?p2); (case p1 => walk_at "ev"); (case p2 => walk_at "ev"))
  | ((with_reducible refine' ev_int1 ?p1); (case p1 => walk_at "ev"))
  | ((with_reducible refine' ev_isN ?p1); (case p1 => walk_at "ev"))
  | ((with_reducible refine' ev_notN ?p1); (case p1 => walk_at "ev"))
  | ((with_reducible refine' ev_sign ?p1); (case p1 => walk_at "ev"))
  | ((with_reducible refine' ev_gcd ?p1 ?p2); (case p1 => walk_at "ev"); (case p2 => walk_at "ev"))
  | ((with_reducible refine' ev_is_in ?p1 ?p2 ?p3 ?p4); (case p1 => walk_at "ev"); (case p2 => walk_at "da"); (case p3 => walk_at "ev"); (case p4 => walk_at "ev"))
  | ((with_reducible refine' ev_doubled ?p1 ?p2 ?p3 ?p4 ?p5 ?p6 ?p7 ?p8 ?p9); (case p1 => walk_at "ev"); (case p2 => walk_at "ev"); (case p3 => walk_at "ev"); (case p4 => walk_at "da"); (case p5 => walk_at "da"); (case p6 => walk_at "da"); (case p7 => assumption); (case p8 => assumption); (case p9 => assumption))
  | ((with_reducible refine' ev_order_of ?p1 ?p2 ?p3 ?p4 ?p5 ?p6); (case p1 => walk_at "ev"); (case p2 => walk_at "ev"); (case p3 => walk_at "da"); (case p4 => walk_at "da"); (case p5 => assumption); (case p6 => assumption))
  | ((with_reducible refine' ev_turn_of ?p1 ?p2 ?p3 ?p4 ?p5 ?p6 ?p7 ?p8 ?p9); (case p1 => walk_at "ev"); (case p2 => walk_at "ev"); (case p3 => walk_at "ev"); (case p4 => walk_at "da"); (case p5 => walk_at "da"); (case p6 => walk_at "da"); (case p7 => assumption); (case p8 => assumption); (case p9 => assumption))
  | ((with_reducible refine' ev_is_between ?p1 ?p2 ?p3 ?p4 ?p5 ?p6 ?p7 ?p8 ?p9); (case p1 => walk_at "ev"); (case p2 => walk_at "ev"); (case p3 => walk_at "ev"); (case p4 => walk_at "da"); (case p5 => walk_at "da"); (case p6 => walk_at "da"); (case p7 => assumption); (case p8 => assumption); (case p9 => assumption)))
section
variable {P : Program} {w : World} {K : PySem.W.Frag} {mg : Str → Option Value} {base : Heap}
def G_l_sign : Gv := fun Z vs H R => ∃ n, vs = [.int n] ∧ R = IsV (.int (sgn n))
theorem ok_l_sign (T : Tx K mg) : FnOk P w K mg base CX0 1 T.f_l_sign T.d_l_sign ["_law_number"] (spOf G_l_sign) := by
  refine T.F_l_sign.ok sc_l_sign (fun vs H Q E h => ?_) (fun cdv A outer s H vs Q E hr h => ?_)
  · obtain ⟨Z, R, _, ⟨n, rfl, _⟩, _⟩ := h
    rfl
  obtain ⟨Z, R, hw, ⟨n, rfl, rfl⟩, hq⟩ := h
  refine ⟨_, (pss_one (ps_ret (pe_ifExp (pt_cmpR op_gt (pv 0) pe_int (nomark _)) pe_int (pe_ifExp (pt_cmpR op_lt (pv 0) pe_int (nomark _)) (pe_un un_neg pe_int) pe_int)))), ?_⟩
  rw [show L2.start nm_l_sign [(.int n)] = [some (.int n)] from rfl]
  refine s_ret (Z := Z) (R := IsV (.int (sgn n))) (by walk_at "w") (ev_if (by walk_at "et") (fun hb => ev_is ev_c ?_) (fun hb => ev_if (by walk_at "et") (fun hb2 => ev_is (ev_neg ev_c) ?_) (fun hb2 => ev_is ev_c ?_))) fun v1 H1 e1 r1 => hq _ _ (by walk_at "xt") r1
  · have h : 0 < n := by simpa using hb
    unfold sgn
    rw [if_pos h]
  · have h : ¬ 0 < n := by simpa using hb
    have h2 : n < 0 := by simpa using hb2
    unfold sgn
    rw [if_neg h, if_pos h2]
  · have h : ¬ 0 < n := by simpa using hb
    have h2 : ¬ n < 0 := by simpa using hb2
    unfold sgn
    rw [if_neg h, if_neg h2]
section
variable {Z : Wd} {σ : L2.St} {H : Hp} {ta tb tc : TE} {E : XK}
theorem ev_l_sign {n : Int} (h1 : Ev Z ta σ H (IsV (.int n))) : Ev Z (tCall (spOf G_l_sign) [] E (tCons ta tNil)) σ H (IsV (.int (sgn n))) := ev_call (ea_cons h1 ea_nil) fun H1 e => ⟨n, rfl, rfl⟩
end
def G_l_doubled : Gv := fun Z vs H R => ∃ va vb vc a b c, vs = [va, vb, vc] ∧ P3 Z va a H ∧ P3 Z vb b H ∧ P3 Z vc c H ∧ Nm a ∧ Nm b ∧ Nm c ∧ R = IsV (.int (det a b c))
theorem ok_l_doubled (T : Tx K mg) : FnOk P w K mg base CX0 1 T.f_l_doubled T.d_l_doubled ["_law_a", "_law_b", "_law_c"] (spOf G_l_doubled) := by
  refine T.F_l_doubled.ok sc_l_doubled (fun vs H Q E h => ?_) (fun cdv A outer s H vs Q E hr h => ?_)
  · obtain ⟨Z, R, _, ⟨va, vb, vc, a, b, c, rfl, _⟩, _⟩ := h
    rfl
  obtain ⟨Z, R, hw, ⟨va, vb, vc, a, b, c, rfl, pa, pb, pc, na, nb, nc, rfl⟩, hq⟩ := h
  refine ⟨_, (pss_cons (ps_par (i := 3) (j := 4) rfl sc_l_doubled.nd rfl rfl (by decide) rfl rfl (pa_cons (pe_op op_sub (pe_op op_mulW (pe_ix ix_tup (pv 1) pe_int (fun _ _ => rfl)) (pe_ix ix_tup (pv 0) pe_int (fun _ _ => rfl))) (pe_op op_mulW (pe_ix ix_tup (pv 0) pe_int (fun _ _ => rfl)) (pe_ix ix_tup (pv 1) pe_int (fun _ _ => rfl)))) (pa_cons (pe_op op_sub (pe_op op_mulW (pe_ix ix_tup (pv 1) pe_int (fun _ _ => rfl)) (pe_ix ix_tup (pv 0) pe_int (fun _ _ => rfl))) (pe_op op_mulW (pe_ix ix_tup (pv 0) pe_int (fun _ _ => rfl)) (pe_ix ix_tup (pv 1) pe_int (fun _ _ => rfl)))) pa_nil)) (by rfl))
  (pss_cons (ps_par (i := 5) (j := 6) rfl sc_l_doubled.nd rfl rfl (by decide) rfl rfl (pa_cons (pe_op op_sub (pe_op op_mulW (pe_ix ix_tup (pv 2) pe_int (fun _ _ => rfl)) (pe_ix ix_tup (pv 0) pe_int (fun _ _ => rfl))) (pe_op op_mulW (pe_ix ix_tup (pv 0) pe_int (fun _ _ => rfl)) (pe_ix ix_tup (pv 2) pe_int (fun _ _ => rfl)))) (pa_cons (pe_op op_sub (pe_op op_mulW (pe_ix ix_tup (pv 2) pe_int (fun _ _ => rfl)) (pe_ix ix_tup (pv 0) pe_int (fun _ _ => rfl))) (pe_op op_mulW (pe_ix ix_tup (pv 0) pe_int (fun _ _ => rfl)) (pe_ix ix_tup (pv 2) pe_int (fun _ _ => rfl)))) pa_nil)) (by rfl))
  (pss_one (ps_ret (pe_op op_fdivA (pe_op op_sub (pe_op op_mulW (pv 3) (pv 6)) (pe_op op_mulW (pv 5) (pv 4))) (pe_ix ix_tup (pv 0) pe_int (fun _ _ => rfl))))))), ?_⟩
  rw [show L2.start nm_l_doubled [va, vb, vc] = [some va, some vb, some vc, none, none, none, none] from rfl]
  obtain ⟨a1, a2, a3, a4⟩ := na
  obtain ⟨b1, b2, b3, _⟩ := nb
  obtain ⟨c1, c2, c3, _⟩ := nc
  refine q_par (Z := Z) (by walk_at "w") (by walk_at "ea") fun vs H1 e1 hv => ⟨_, _, hv, ?_⟩
  refine q_par (Z := Z) (by walk_at "w") (by walk_at "ea") fun vs H2 e2 hv => ⟨_, _, hv, ?_⟩
  have k1 : B 200 (b.x * a.w - a.x * b.w) := ((b1.mul a3).sub (a1.mul b3)).mono (by decide)
  have k2 : B 200 (b.y * a.w - a.y * b.w) := ((b2.mul a3).sub (a2.mul b3)).mono (by decide)
  have k3 : B 200 (c.x * a.w - a.x * c.w) := ((c1.mul a3).sub (a1.mul c3)).mono (by decide)
  have k4 : B 200 (c.y * a.w - a.y * c.w) := ((c2.mul a3).sub (a2.mul c3)).mono (by decide)
  have ha : a.w ≠ 0 := by omega
  refine s_ret (Z := Z) (R := IsV (.int (det a b c))) (by walk_at "w") (ev_is (ev_iC (ev_i0 (ev_iC (by walk_at "ev") (by walk_at "ev") (B.cmul k1 k4 (by decide))) (ev_iC (by walk_at "ev") (by walk_at "ev") (B.cmul k3 k2 (by decide)))) (by walk_at "ev") (B.cdiv ha a3 (by decide))) ?_) fun v3 H3 e3 r3 => hq _ _ (by walk_at "xt") r3
  have e := det_l a b c
  unfold lx ly at e
  rw [← e]
  congr 1
  rw [Int.fdiv_eq_ediv_of_dvd ⟨det a b c, Int.mul_comm _ _⟩]
  exact Int.mul_ediv_cancel _ ha
section
variable {Z : Wd} {σ : L2.St} {H : Hp} {ta tb tc : TE} {E : XK}
theorem ev_l_doubled {va vb vc : V} {a b c : Pt} (h1 : Ev Z ta σ H (IsV va)) (h2 : Ev Z tb σ H (IsV vb)) (h3 : Ev Z tc σ H (IsV vc)) (pa : P3 Z va a H) (pb : P3 Z vb b H) (pc : P3 Z vc c H) (na : Nm a) (nb : Nm b) (nc : Nm c) :
    Ev Z (tCall (spOf G_l_doubled) [] E (tCons ta (tCons tb (tCons tc tNil)))) σ H (IsV (.int (det a b c))) :=
  ev_call (ea_cons h1 (ea_cons h2 (ea_cons h3 ea_nil))) fun H1 e => ⟨va, vb, vc, a, b, c, rfl, pa.mono e, pb.mono e, pc.mono e, na, nb, nc, rfl⟩
end
def G_l_turn : Gv := fun Z vs H R => ∃ va vb vc a b c, vs = [va, vb, vc] ∧ P3 Z va a H ∧ P3 Z vb b H ∧ P3 Z vc c H ∧ Nm a ∧ Nm b ∧ Nm c ∧ R = IsV (.int (sgn (det a b c)))
theorem ok_l_turn (T : Tx K mg) : FnOk P w K mg base CX0 2 T.f_l_turn T.d_l_turn ["_law_a", "_law_b", "_law_c"] (spOf G_l_turn) := by
  refine T.F_l_turn.ok sc_l_turn (fun vs H Q E h => ?_) (fun cdv A outer s H vs Q E hr h => ?_)
  · obtain ⟨Z, R, _, ⟨va, vb, vc, a, b, c, rfl, _⟩, _⟩ := h
    rfl
  obtain ⟨Z, R, hw, ⟨va, vb, vc, a, b, c, rfl, pa, pb, pc, na, nb, nc, rfl⟩, hq⟩ := h
  refine ⟨_, (pss_one (ps_ret (pe_call (ok_l_sign T) (hr.mono (by decide)) (by rfl) T.g_l_sign T.F_l_sign.kp T.b_l_sign .nil pass0 (pa_cons (pe_call (ok_l_doubled T) (hr.mono (by decide)) (by rfl) T.g_l_doubled T.F_l_doubled.kp T.b_l_doubled .nil pass0 (pa_cons (pv 0) (pa_cons (pv 1) (pa_cons (pv 2) pa_nil)))) pa_nil)))), ?_⟩
  rw [show L2.start nm_l_turn [va, vb, vc] = [some va, some vb, some vc] from rfl]
  exact s_ret (Z := Z) (by walk_at "w") (ev_l_sign (ev_l_doubled (by walk_at "ev") (by walk_at "ev") (by walk_at "ev") pa pb pc na nb nc)) fun v3 H3 e3 r3 => hq _ _ (by walk_at "xt") r3
section
variable {Z : Wd} {σ : L2.St} {H : Hp} {ta tb tc : TE} {E : XK}
theorem ev_l_turn {va vb vc : V} {a b c : Pt} (h1 : Ev Z ta σ H (IsV va)) (h2 : Ev Z tb σ H (IsV vb)) (h3 : Ev Z tc σ H (IsV vc)) (pa : P3 Z va a H) (pb : P3 Z vb b H) (pc : P3 Z vc c H) (na : Nm a) (nb : Nm b) (nc : Nm c) :
    Ev Z (tCall (spOf G_l_turn) [] E (tCons ta (tCons tb (tCons tc tNil)))) σ H (IsV (.int (sgn (det a b c)))) :=
  ev_call (ea_cons h1 (ea_cons h2 (ea_cons h3 ea_nil))) fun H1 e => ⟨va, vb, vc, a, b, c, rfl, pa.mono e, pb.mono e, pc.mono e, na, nb, nc, rfl⟩
end
def G_l_order : Gv := fun Z vs H R => ∃ va vb a b, vs = [va, vb] ∧ P3 Z va a H ∧ P3 Z vb b H ∧ Nm a ∧ Nm b ∧ R = IsV (.int (ordP a b))
theorem ok_l_order (T : Tx K mg) : FnOk P w K mg base CX0 2 T.f_l_order T.d_l_order ["_law_a", "_law_b"] (spOf G_l_order) := by
  refine T.F_l_order.ok sc_l_order (fun vs H Q E h => ?_) (fun cdv A outer s H vs Q E hr h => ?_)
  · obtain ⟨Z, R, _, ⟨va, vb, a, b, rfl, _⟩, _⟩ := h
    rfl
  obtain ⟨Z, R, hw, ⟨va, vb, a, b, rfl, pa, pb, ⟨a1, a2, a3, _⟩, ⟨b1, b2, b3, _⟩, rfl⟩, hq⟩ := h
  refine ⟨_, (pss_cons (ps_set (i := 2) sc_l_order.nd rfl (Or.inl rfl) (pe_call (ok_l_sign T) (hr.mono (by decide)) (by rfl) T.g_l_sign T.F_l_sign.kp T.b_l_sign .nil pass0 (pa_cons (pe_op op_sub (pe_op op_mulW (pe_ix ix_tup (pv 0) pe_int (fun _ _ => rfl)) (pe_ix ix_tup (pv 1) pe_int (fun _ _ => rfl))) (pe_op op_mulW (pe_ix ix_tup (pv 1) pe_int (fun _ _ => rfl)) (pe_ix ix_tup (pv 0) pe_int (fun _ _ => rfl)))) pa_nil)))
  (pss_one (ps_ret (pe_ifExp (pt_cmpR op_ne (pv 2) pe_int (nomark _)) (pv 2) (pe_call (ok_l_sign T) (hr.mono (by decide)) (by rfl) T.g_l_sign T.F_l_sign.kp T.b_l_sign .nil pass0 (pa_cons (pe_op op_sub (pe_op op_mulW (pe_ix ix_tup (pv 0) pe_int (fun _ _ => rfl)) (pe_ix ix_tup (pv 1) pe_int (fun _ _ => rfl))) (pe_op op_mulW (pe_ix ix_tup (pv 1) pe_int (fun _ _ => rfl)) (pe_ix ix_tup (pv 0) pe_int (fun _ _ => rfl)))) pa_nil)))))), ?_⟩
  rw [show L2.start nm_l_order [va, vb] = [some va, some vb, none] from rfl]
  refine q_asg (Z := Z) (by walk_at "w") (ev_l_sign (by walk_at "ev")) fun v1 H1 e1 r1 => ?_
  subst r1
  refine s_ret (Z := Z) (by walk_at "w") (R := IsV (.int (ordP a b))) (ev_if (by walk_at "et") (fun hb => ?_) (fun hb => ?_)) fun v2 H6 e6 r2 => hq _ _ (by walk_at "xt") r2
  · refine ev_is (by walk_at "ev") ?_
    unfold ordP
    rw [if_pos (by simpa using hb)]
  · refine ev_is (ev_l_sign (by walk_at "ev")) ?_
    unfold ordP
    rw [if_neg (by simpa using hb)]
section
variable {Z : Wd} {σ : L2.St} {H : Hp} {ta tb tc : TE} {E : XK}
theorem ev_l_order {va vb : V} {a b : Pt} (h1 : Ev Z ta σ H (IsV va)) (h2 : Ev Z tb σ H (IsV vb)) (pa : P3 Z va a H) (pb : P3 Z vb b H) (na : Nm a) (nb : Nm b) : Ev Z (tCall (spOf G_l_order) [] E (tCons ta (tCons tb tNil))) σ H (IsV (.int (ordP a b))) :=
  ev_call (ea_cons h1 (ea_cons h2 ea_nil)) fun H1 e => ⟨va, vb, a, b, rfl, pa.mono e, pb.mono e, na, nb, rfl⟩
end
def lbt (a b p : Pt) : Bool := if det a b p ≠ 0 ∨ a = b then decide (p = a) else if ordP a b < 0 then (decide (ordP a p ≤ 0) && decide (ordP p b ≤ 0)) else (decide (ordP b p ≤ 0) && decide (ordP p a ≤ 0))
def G_l_between : Gv := fun Z vs H R => ∃ va vb vc a b c, vs = [va, vb, vc] ∧ P3 Z va a H ∧ P3 Z vb b H ∧ P3 Z vc c H ∧ Nm a ∧ Nm b ∧ Nm c ∧ R = IsV (.bl (lbt a b c))
theorem ok_l_between (T : Tx K mg) : FnOk P w K mg base CX0 3 T.f_l_between T.d_l_between ["_law_a", "_law_b", "_law_p"] (spOf G_l_between) := by
  refine T.F_l_between.ok sc_l_between (fun vs H Q E h => ?_) (fun cdv A outer s H vs Q E hr h => ?_)
  · obtain ⟨Z, R, _, ⟨va, vb, vc, a, b, c, rfl, _⟩, _⟩ := h
    rfl
  obtain ⟨Z, R, hw, ⟨va, vb, vc, a, b, p, rfl, pa, pb, pp, na, nb, np, rfl⟩, hq⟩ := h
  refine ⟨_, (pss_cons (ps_if (PW.pt (pw_or (pt_cmpR op_ne (pe_call (ok_l_turn T) (hr.mono (by decide)) (by rfl) T.g_l_turn T.F_l_turn.kp T.b_l_turn .nil pass0 (pa_cons (pv 0) (pa_cons (pv 1) (pa_cons (pv 2) pa_nil)))) pe_int (nomark _)) (pw_or1 (pt_cmpR (op_eqD hr.units) (pv 0) (pv 1) (nomark _)))))
  (pss_one (ps_ret (pe_cmpR (op_eqD hr.units) (pv 2) (pv 0) (nomark _))))
  pss_nil)
  (pss_cons (ps_asg (pe_ifExp (pt_cmpR op_lt (pe_call (ok_l_order T) (hr.mono (by decide)) (by rfl) T.g_l_order T.F_l_order.kp T.b_l_order .nil pass0 (pa_cons (pv 0) (pa_cons (pv 1) pa_nil))) pe_int (nomark _)) (pe_tup (pa_cons (pv 0) (pa_cons (pv 1) pa_nil))) (pe_tup (pa_cons (pv 1) (pa_cons (pv 0) pa_nil)))) (pg_tup rfl (pgs_cons (pg_name (i := 3) sc_l_between.nd rfl (Or.inl rfl)) (pgs_cons (pg_name (i := 4) sc_l_between.nd rfl (Or.inl rfl)) pgs_nil))))
  (pss_one (ps_ret (pe_and (pe_cmpR op_le (pe_call (ok_l_order T) (hr.mono (by decide)) (by rfl) T.g_l_order T.F_l_order.kp T.b_l_order .nil pass0 (pa_cons (pv 3) (pa_cons (pv 2) pa_nil))) pe_int (nomark _)) (pe_one (pe_cmpR op_le (pe_call (ok_l_order T) (hr.mono (by decide)) (by rfl) T.g_l_order T.F_l_order.kp T.b_l_order .nil pass0 (pa_cons (pv 2) (pa_cons (pv 4) pa_nil))) pe_int (nomark _)))))))), ?_⟩
  rw [show L2.start nm_l_between [va, vb, vc] = [some va, some vb, some vc, none, none] from rfl]
  have eqP : ∀ {H1 σ x y} {q r : Pt} {t1 t2 : TE}, Ev Z t1 σ H1 (IsV x) → Ev Z t2 σ H1 (IsV y) → P3 Z x q H1 → P3 Z y r H1 → Ev Z (tOp (rEqD K) t1 t2) σ H1 (IsV (.bl (decide (q = r)))) := fun {H1 σ x y q r t1 t2} h1 h2 k1 k2 =>
    ev_is (ev_eqDD (ev_da h1 k1.da) (ev_da h2 k2.da) (ptD_nod _) (ptD_nod _) (ptD_sh _) (ptD_sh _)) (by rw [ptD_eqv])
  refine q_when (Z := Z) (b := decide (det a b p ≠ 0 ∨ a = b)) (by walk_at "w") (et_is (et_or (et_test (ev_ne (ev_l_turn (by walk_at "ev") (by walk_at "ev") (by walk_at "ev") pa pb pp na nb np) ev_c rfl)) fun _ => et_test (eqP (by walk_at "ev") (by walk_at "ev") pa pb)) ?_) (fun hb H1 e1 => ?_) (fun hb H1 e1 => ?_)
  · have := sgn_zero (det a b p)
    by_cases h : det a b p = 0
    · rw [this.mpr h]
      simp [h]
    · have h2 : sgn (det a b p) ≠ 0 := fun z => h (this.mp z)
      simp [h, h2]
  · have hb := of_decide_eq_true hb
    refine s_ret (Z := Z) (R := IsV (.bl (lbt a b p))) (by walk_at "w") (ev_is (eqP (by walk_at "ev") (by walk_at "ev") (pp.mono e1) (pa.mono e1)) ?_) fun v1 H2 e2 r1 => hq _ _ (by walk_at "xt") r1
    unfold lbt
    rw [if_pos hb]
  · have hb := of_decide_eq_false hb
    have pa := pa.mono e1
    have pb := pb.mono e1
    have pp := pp.mono e1
    by_cases ho : ordP a b < 0
    · refine q_asgG (Z := Z) (R := TuR Z [va, vb]) (by walk_at "w") (ev_if (b := true) (et_is (et_test (ev_i0 (ev_l_order (by walk_at "ev") (by walk_at "ev") pa pb na nb) ev_c)) (decide_eq_true ho)) (fun _ => ev_tup (ea_cons (by walk_at "ev") (ea_cons (by walk_at "ev") ea_nil)) (by simp)) (fun h => by cases h)) fun v1 H2 e2 r1 => g_tup2 r1 ?_
      have pa := pa.mono e2
      have pb := pb.mono e2
      have pp := pp.mono e2
      refine s_ret (Z := Z) (R := IsV (.bl (lbt a b p))) (by walk_at "w") (ev_is (ev_andV (ev_i0 (ev_l_order (by walk_at "ev") (by walk_at "ev") pa pp na np) ev_c) fun _ => ev_i0 (ev_l_order (by walk_at "ev") (by walk_at "ev") pp pb np nb) ev_c) ?_) fun v1 H3 e3 r1 => hq _ _ (by walk_at "xt") r1
      unfold lbt
      rw [if_neg hb, if_pos ho]
    · refine q_asgG (Z := Z) (R := TuR Z [vb, va]) (by walk_at "w") (ev_if (b := false) (et_is (et_test (ev_i0 (ev_l_order (by walk_at "ev") (by walk_at "ev") pa pb na nb) ev_c)) (decide_eq_false ho)) (fun h => by cases h) (fun _ => ev_tup (ea_cons (by walk_at "ev") (ea_cons (by walk_at "ev") ea_nil)) (by simp))) fun v1 H2 e2 r1 => g_tup2 r1 ?_
      have pa := pa.mono e2
      have pb := pb.mono e2
      have pp := pp.mono e2
      refine s_ret (Z := Z) (R := IsV (.bl (lbt a b p))) (by walk_at "w") (ev_is (ev_andV (ev_i0 (ev_l_order (by walk_at "ev") (by walk_at "ev") pb pp nb np) ev_c) fun _ => ev_i0 (ev_l_order (by walk_at "ev") (by walk_at "ev") pp pa np na) ev_c) ?_) fun v1 H3 e3 r1 => hq _ _ (by walk_at "xt") r1
      unfold lbt
      rw [if_neg hb, if_neg ho]
section
variable {Z : Wd} {σ : L2.St} {H : Hp} {ta tb tc : TE} {E : XK}
theorem ev_l_between {va vb vc : V} {a b c : Pt} (h1 : Ev Z ta σ H (IsV va)) (h2 : Ev Z tb σ H (IsV vb)) (h3 : Ev Z tc σ H (IsV vc)) (pa : P3 Z va a H) (pb : P3 Z vb b H) (pc : P3 Z vc c H) (na : Nm a) (nb : Nm b) (nc : Nm c) :
    Ev Z (tCall (spOf G_l_between) [] E (tCons ta (tCons tb (tCons tc tNil)))) σ H (IsV (.bl (lbt a b c))) :=
  ev_call (ea_cons h1 (ea_cons h2 (ea_cons h3 ea_nil))) fun H1 e => ⟨va, vb, vc, a, b, c, rfl, pa.mono e, pb.mono e, pc.mono e, na, nb, nc, rfl⟩
end
/-! gcd, ratio, plus, times -/
def G_l_gcd : Gv := fun Z vs H R => ∃ a b, vs = [.int a, .int b] ∧ R = IsV (.int (gcdI a b))
theorem ok_l_gcd (T : Tx K mg) : FnOk P w K mg base CX0 1 T.f_l_gcd T.d_l_gcd ["_law_one", "_law_other"] (spOf G_l_gcd) := by
  refine T.F_l_gcd.ok sc_l_gcd (fun vs H Q E h => ?_) (fun cdv A outer s H vs Q E hr h => ?_)
  · obtain ⟨Z, R, _, ⟨a, b, rfl, _⟩, _⟩ := h
    rfl
  obtain ⟨Z, R, hw, ⟨a, b, rfl, rfl⟩, hq⟩ := h
  refine ⟨_, (pss_cons (ps_par (i := 0) (j := 1) rfl sc_l_gcd.nd rfl rfl (by decide) rfl rfl (pa_cons (pe_callB call_abs (by rfl) T.z_abs (by decide +kernel) (pa_cons (pv 0) pa_nil)) (pa_cons (pe_callB call_abs (by rfl) T.z_abs (by decide +kernel) (pa_cons (pv 1) pa_nil)) pa_nil)) (by rfl))
  (pss_cons (ps_while PassesOwn.never (pt_cmpR op_ne (pv 1) pe_int (nomark _))
  (pss_one (ps_par (i := 0) (j := 1) rfl sc_l_gcd.nd rfl rfl (by decide) rfl rfl (pa_cons (pv 1) (pa_cons (pe_op op_modN (pe_callTy call_int1 (by rfl) T.z_int (by decide +kernel) (pa_cons (pv 0) pa_nil)) (pv 1)) pa_nil)) (by rfl))))
  (pss_one (ps_ret (pv 0))))), ?_⟩
  rw [show L2.start nm_l_gcd [(.int a), (.int b)] = [some (.int a), some (.int b)] from rfl]
  refine q_par (Z := Z) (by walk_at "w") (by walk_at "ea") fun vs H1 e1 hv => ?_
  subst hv
  refine ⟨_, _, rfl, ?_⟩
  refine q_while (Z := Z) (fun m σ' H' => ∃ x y : Int, σ' = [some (.int x), some (.int y)] ∧ 0 ≤ x ∧ 0 ≤ y ∧ gcdI x y = gcdI a b ∧ m = y.toNat ∧ Xt Z H H') _ ⟨_, _, rfl, by split <;> omega, by split <;> omega, gcd_abs a b, rfl, e1⟩ fun m σ' H' ⟨x, y, es, hx, hy, hg, hm, e2⟩ => ?_
  subst es
  refine ⟨e2.w2, _, (by walk_at "et"), fun hb H2 e3 => ?_, fun hb H2 e3 => ?_⟩
  · have hy0 : y ≠ 0 := by
      intro z
      rw [z] at hb
      simp at hb
    refine (s_par (Z := Z) (RA := fun us _ => us = [.int y, .int (x.fmod y)]) (by walk_at "w") (ea_cons (by walk_at "ev") (ea_cons (ev_iC (ev_int1 (by walk_at "ev")) (by walk_at "ev") hy0) ea_nil)) fun us H3 e4 hv => ⟨_, _, hv, ?_⟩)
    refine ⟨(x.fmod y).toNat, ?_, y, x.fmod y, rfl, hy, ?_, ?_, rfl, by walk_at "xt"⟩
    · rw [Int.fmod_eq_emod_of_nonneg x hy, hm]
      have := Int.emod_lt_of_pos x (show 0 < y by omega)
      have := Int.emod_nonneg x hy0
      omega
    · rw [Int.fmod_eq_emod_of_nonneg x hy]
      exact Int.emod_nonneg x hy0
    · rw [gcd_turn hx (by omega), hg]
  · have hy0 : y = 0 := by
      simpa using hb
    subst hy0
    rw [gcd_zero hx] at hg
    refine s_ret (Z := Z) (by walk_at "w") (by walk_at "ev") fun v1 H3 e4 r1 => ?_
    rw [hg] at r1
    exact hq _ _ (by walk_at "xt") r1
section
variable {Z : Wd} {σ : L2.St} {H : Hp} {ta tb tc : TE} {E : XK}
theorem ev_l_gcd {a b : Int} (h1 : Ev Z ta σ H (IsV (.int a))) (h2 : Ev Z tb σ H (IsV (.int b))) : Ev Z (tCall (spOf G_l_gcd) [] E (tCons ta (tCons tb tNil))) σ H (IsV (.int (gcdI a b))) :=
  ev_call (ea_cons h1 (ea_cons h2 ea_nil)) fun H1 e => ⟨a, b, rfl, rfl⟩
end
def G_l_ratio : Gv := fun Z vs H R => ∃ n d, vs = [.int n, .int d] ∧ d ≠ 0 ∧ B 8900 d ∧ R = Ra Z (Rat.divInt n d)
theorem ok_l_ratio (T : Tx K mg) : FnOk P w K mg base CX0 2 T.f_l_ratio T.d_l_ratio ["_law_numerator", "_law_denominator"] (spOf G_l_ratio) := by
  refine T.F_l_ratio.ok sc_l_ratio (fun vs H Q E h => ?_) (fun cdv A outer s H vs Q E hr h => ?_)
  · obtain ⟨Z, R, _, ⟨n, d, rfl, _⟩, _⟩ := h
    rfl
  obtain ⟨Z, R, hw, ⟨n, d, rfl, hd, hb, rfl⟩, hq⟩ := h
  refine ⟨_, (pss_cons (ps_set (i := 2) sc_l_ratio.nd rfl (Or.inl rfl) (pe_call (ok_l_gcd T) (hr.mono (by decide)) (by rfl) T.g_l_gcd T.F_l_gcd.kp T.b_l_gcd .nil pass0 (pa_cons (pv 0) (pa_cons (pv 1) pa_nil))))
  (pss_cons (ps_set (i := 2) sc_l_ratio.nd rfl (Or.inl rfl) (pe_ifExp (pt_cmpR op_lt (pv 1) pe_int (nomark _)) (pe_op op_sub pe_int (pv 2)) (pv 2)))
  (pss_one (ps_ret (pe_tup (pa_cons (pe_op op_fdivA (pv 0) (pv 2)) (pa_cons (pe_op op_fdivA (pv 1) (pv 2)) pa_nil))))))), ?_⟩
  rw [show L2.start nm_l_ratio [(.int n), (.int d)] = [some (.int n), some (.int d), none] from rfl]
  refine q_asg (Z := Z) (by walk_at "w") (ev_l_gcd (by walk_at "ev") (by walk_at "ev")) fun v1 H1 e1 r1 => ?_
  subst r1
  have hg := hb.gcdr n hd
  refine q_asg (Z := Z) (R := IsV (.int (redc n d))) (by walk_at "w") (ev_if (by walk_at "et") (fun h => ev_is (ev_i0 ev_c (by walk_at "ev")) ?_) (fun h => ev_is (by walk_at "ev") ?_)) fun v2 H2 e2 r2 => ?_
  · unfold redc
    rw [if_pos (by simpa using h)]
    congr 1
    omega
  · unfold redc
    rw [if_neg (by simpa using h)]
  subst r2
  have hc := redc_ne (n := n) hd
  have hcb : B 8900 (redc n d) := by
    unfold redc
    split
    · exact hg.neg
    · exact hg
  refine s_ret (Z := Z) (by walk_at "w") (ev_tup (by walk_at "ea") (by simp)) fun v2 H6 e6 r2 => ?_
  rw [redc_num hd, redc_den hd] at r2
  exact hq _ _ (by walk_at "xt") r2
section
variable {Z : Wd} {σ : L2.St} {H : Hp} {ta tb tc : TE} {E : XK}
theorem ev_l_ratio {n d : Int} (h1 : Ev Z ta σ H (IsV (.int n))) (h2 : Ev Z tb σ H (IsV (.int d))) (hd : d ≠ 0) (hb : B 8900 d) : Ev Z (tCall (spOf G_l_ratio) [] E (tCons ta (tCons tb tNil))) σ H (Ra Z (Rat.divInt n d)) :=
  ev_call (ea_cons h1 (ea_cons h2 ea_nil)) fun H1 e => ⟨n, d, rfl, hd, hb, rfl⟩
end
def G_l_plus : Gv := fun Z vs H R => ∃ v1 v2 p q, vs = [v1, v2] ∧ Ra Z p v1 H ∧ Ra Z q v2 H ∧ RB 4400 p ∧ RB 4400 q ∧ R = Ra Z (p + q)
theorem ok_l_plus (T : Tx K mg) : FnOk P w K mg base CX0 3 T.f_l_plus T.d_l_plus ["_law_one", "_law_other"] (spOf G_l_plus) := by
  refine T.F_l_plus.ok sc_l_plus (fun vs H Q E h => ?_) (fun cdv A outer s H vs Q E hr h => ?_)
  · obtain ⟨Z, R, _, ⟨v1, v2, p, q, rfl, _⟩, _⟩ := h
    rfl
  obtain ⟨Z, R, hw, ⟨v1, v2, p, q, rfl, h1, h2, ⟨b1, b2⟩, ⟨b3, b4⟩, rfl⟩, hq⟩ := h
  refine ⟨_, (pss_one (ps_ret (pe_call (ok_l_ratio T) (hr.mono (by decide)) (by rfl) T.g_l_ratio T.F_l_ratio.kp T.b_l_ratio .nil pass0 (pa_cons (pe_op op_add (pe_op op_mulW (pe_ix ix_tup (pv 0) pe_int (fun _ _ => rfl)) (pe_ix ix_tup (pv 1) pe_int (fun _ _ => rfl))) (pe_op op_mulW (pe_ix ix_tup (pv 1) pe_int (fun _ _ => rfl)) (pe_ix ix_tup (pv 0) pe_int (fun _ _ => rfl)))) (pa_cons (pe_op op_mulW (pe_ix ix_tup (pv 0) pe_int (fun _ _ => rfl)) (pe_ix ix_tup (pv 1) pe_int (fun _ _ => rfl))) pa_nil))))), ?_⟩
  have h0 : (p.den : Int) * (q.den : Int) ≠ 0 := Int.mul_ne_zero (den_ne p) (den_ne q)
  refine s_ret (Z := Z) (by walk_at "w") (ev_l_ratio (by walk_at "ev") (by walk_at "ev") h0 ((b2.mul b4).mono (by decide))) fun v2 H6 e6 r2 => ?_
  rw [add_eq] at r2
  exact hq _ _ (by walk_at "xt") r2
def G_l_times : Gv := fun Z vs H R => ∃ v1 v2 p x y, vs = [v1, v2] ∧ Ra Z p v1 H ∧ TuR Z [.int x, .int y] v2 H ∧ RB 4000 p ∧ B 400 x ∧ B 400 y ∧ y ≠ 0 ∧ R = Ra Z (p * Rat.divInt x y)
theorem mul_div (p : Rat) (x y : Int) (hy : y ≠ 0) : Rat.divInt (p.num * x) (p.den * y) = p * Rat.divInt x y := by
  have hd := den_ne p
  have h0 : (p.den : Int) * y ≠ 0 := Int.mul_ne_zero hd hy
  refine rcancel (cast_ne h0) ?_
  rw [Rat.mul_comm, rat_num h0, Rat.intCast_mul, Rat.intCast_mul]
  have e1 := rat_num (n := p.num) hd
  rw [div_num] at e1
  have e2 := rat_num (n := x) hy
  rw [← e1, ← e2]
  grind
theorem ok_l_times (T : Tx K mg) : FnOk P w K mg base CX0 3 T.f_l_times T.d_l_times ["_law_one", "_law_other"] (spOf G_l_times) := by
  refine T.F_l_times.ok sc_l_times (fun vs H Q E h => ?_) (fun cdv A outer s H vs Q E hr h => ?_)
  · obtain ⟨Z, R, _, ⟨v1, v2, p, x, y, rfl, _⟩, _⟩ := h
    rfl
  obtain ⟨Z, R, hw, ⟨v1, v2, p, x, y, rfl, h1, h2, ⟨b1, b2⟩, b3, b4, hy, rfl⟩, hq⟩ := h
  refine ⟨_, (pss_one (ps_ret (pe_call (ok_l_ratio T) (hr.mono (by decide)) (by rfl) T.g_l_ratio T.F_l_ratio.kp T.b_l_ratio .nil pass0 (pa_cons (pe_op op_mulW (pe_ix ix_tup (pv 0) pe_int (fun _ _ => rfl)) (pe_ix ix_tup (pv 1) pe_int (fun _ _ => rfl))) (pa_cons (pe_op op_mulW (pe_ix ix_tup (pv 0) pe_int (fun _ _ => rfl)) (pe_ix ix_tup (pv 1) pe_int (fun _ _ => rfl))) pa_nil))))), ?_⟩
  have h0 : (p.den : Int) * y ≠ 0 := Int.mul_ne_zero (den_ne p) hy
  refine s_ret (Z := Z) (by walk_at "w") (ev_l_ratio (by walk_at "ev") (by walk_at "ev") h0 ((b2.mul b4).mono (by decide))) fun v2 H6 e6 r2 => ?_
  rw [mul_div p x y hy] at r2
  exact hq _ _ (by walk_at "xt") r2
section
variable {Z : Wd} {σ : L2.St} {H : Hp} {ta tb tc : TE} {E : XK}
theorem ev_l_plusR {p q : Rat} (h1 : Ev Z ta σ H (Ra Z p)) (h2 : Ev Z tb σ H (Ra Z q)) (b1 : RB 4400 p) (b2 : RB 4400 q) : Ev Z (tCall (spOf G_l_plus) [] E (tCons ta (tCons tb tNil))) σ H (Ra Z (p + q)) :=
  ev_callX (RA := fun us H1 => ∃ v1 v2, us = [v1, v2] ∧ Ra Z p v1 H1 ∧ Ra Z q v2 H1) (ea_consX h1 fun v1 H1 e1 r1 => ea_consX (h2.mono e1) fun v2 H2 e2 r2 => ea_nilX fun H3 e3 => ⟨v1, v2, rfl, r1.mono (e2.trans e3), r2.mono e3⟩) fun us H1 e ⟨v1, v2, hu, r1, r2⟩ => ⟨v1, v2, p, q, hu, r1, r2, b1, b2, rfl⟩
theorem ev_l_timesR {p : Rat} {x y : Int} (h1 : Ev Z ta σ H (Ra Z p)) (h2 : Ev Z tb σ H (TuR Z [.int x, .int y])) (b1 : RB 4000 p) (b2 : B 400 x) (b3 : B 400 y) (hy : y ≠ 0) : Ev Z (tCall (spOf G_l_times) [] E (tCons ta (tCons tb tNil))) σ H (Ra Z (p * Rat.divInt x y)) :=
  ev_callX (RA := fun us H1 => ∃ v1 v2, us = [v1, v2] ∧ Ra Z p v1 H1 ∧ TuR Z [.int x, .int y] v2 H1) (ea_consX h1 fun v1 H1 e1 r1 => ea_consX (h2.mono e1) fun v2 H2 e2 r2 => ea_nilX fun H3 e3 => ⟨v1, v2, rfl, r1.mono (e2.trans e3), r2.mono e3⟩) fun us H1 e ⟨v1, v2, hu, r1, r2⟩ => ⟨v1, v2, p, x, y, hu, r1, r2, b1, b2, b3, hy, rfl⟩
end
end
end Hk
/-! ## R5 -/
/-! tuple(xs) of a list, told with its object; t.index(x) at such a tuple -/
namespace Hk
open PySem PySem.Spec PySem.W PyProof.Rows L2
section
variable {X : Cx}
def rTupF (K : PySem.W.Frag) : List V → Hp → VK → Prop := fun xs H Q => ∃ p ys, xs = [V.ref p] ∧ SqL K H p ys ∧ ∀ (l : Addr) (ob : Obj), H l = none → ob.dict = none → Q (.ref l) (upd H l (.frz ob (.tup ys)))
theorem call_tupF : CallR X (.type "tuple") (rTupF X.K) := by
  intro pins s σ H xs us Q I r h
  obtain ⟨p, ys, rfl, hq, q⟩ := h
  obtain ⟨u, rfl, rx⟩ := vals1 r
  cases rx
  obtain ⟨its, r', pl, hz⟩ := I.list hq
  have hlen := r'.length
  refine call_tuple_list pl.isList (fun h' kp => ?_) (by simp only [List.size_toArray] <;> omega)
  have I1 : Inv X pins σ H { s with heap := h' } := I.kept (t' := s.toks) kp
  have I2 : Inv X pins σ (upd H h'.objs.size (.frz { cls := .type "tuple", data := .seq its.toArray } (.tup ys))) { s with heap := h'.push { cls := .type "tuple", data := .seq its.toArray } } :=
    I1.laid (t' := s.toks) (fun b o e => Heap.get?_push_of_some _ e) (Nat.le_refl _) (show ObjOk X.prog X.w _ _ _ (.frz _ (.tup ys)) from ⟨Heap.get?_push_size _ rfl, hz, its, r', IsTup.new _ _⟩)
  exact ⟨.ref h'.objs.size, _, I2, rfl, q _ _ (I1.hok.fresh (Nat.le_refl _)) rfl⟩
def tIdx (K : PySem.W.Frag) (to : TE) (t : TA) : TE := fun σ H Q => to σ H fun x H1 => (∃ a ob xs, x = .ref a ∧ H1 a = some (.frz ob (.tup xs)) ∧ ob.dict = none) ∧ t σ H1 fun xs H2 => rIndexTD K x xs H2 Q
theorem pe_index {o e : Expr} {es : List Expr} {to : TE} {t : TA} {apos cpos : Pos} (hu : X.A.units + 65 < cLine) (ho : PE X o to) (ha : PA X (e :: es) t)
    (hbase : attributeBase o "index" X.env (eval o X.env) = eval o X.env := by rfl)
    (hfew : ((backTo cpos (starEach (e :: es) X.env)).all (fun x => !x.1) && (backToKw cpos (keywordEach [] X.env)).all (fun x => x.1.isSome)
      && decide ((e :: es).length + ([] : List Keyword).length + (if ([] : List Keyword).isEmpty then 0 else 1) < 30)) = true := by rfl)
    (hline : (apos.endLine == cpos.line) = true := by rfl) (hs : starEach (e :: es) X.env = (false, eval e X.env) :: starEach es X.env := by rfl) (hplain : (backTo cpos (starEach es X.env)).any (·.1) = false := by rfl) :
    PE X (.Call (.Attribute o "index" apos) (e :: es) [] cpos) (tIdx X.K to t) := by
  refine ⟨fun pins s σ H Q I h => ?_⟩
  refine wpAny_Call_method_late hbase hfew hline rfl (thn (ho.run pins s σ H _ I h) fun v s1 ⟨x, H1, I1, r1, ⟨a, ob, xs, hx, hf, hd⟩, q1⟩ => ?_)
  subst hx
  cases r1
  obtain ⟨e0, z, its, r, ob2, e2, c2, n2, d2⟩ := I1.hok a _ hf
  refine ⟨"tuple", "tuple.index", PySem.F.plainAttrs_tuple, PySem.F.slot_tuple_index, PySem.F.type_tuple_index, ⟨ob2, e2, c2⟩, fun b eb => ?_, ?_⟩
  · cases eb
    exact ⟨ob, e0, hd⟩
  have hA := ha.run cpos pins s1 σ H1 _ I1 q1
  rw [hs] at hA ⊢
  refine Calls.callWith_builtin (by show (false || (backTo cpos (starEach es X.env)).any (·.1)) = false; rw [hplain] <;> rfl) (Calls.evalArgs_plain ?_)
  exact thn hA fun us s2 ⟨vs, H2, I2, r2, q2⟩ => mt_indexTD hu pins s2 σ H2 (.ref a) vs (.ref a) us Q I2 rfl r2 q2
end
end Hk
/-! ## F20 -/
namespace Hk
open PySem PySem.Spec PyProof.Rows L2
local macro_rules | `(tactic| walk_at "bd") => `(tactic| first
  | assumption
  | exact (show B 64 _ from by unfold B; decide)
  | (refine' B.mul ?b1 ?b2; (case b1 => walk_at "bd"); (case b2 => walk_at "bd"))
  | (refine' B.sub ?b1 ?b2; (case b1 => walk_at "bd"); (case b2 => walk_at "bd"))
  | (refine' B.add ?b1 ?b2; (case b1 => walk_at "bd"); (case b2 => walk_at "bd"))
  | (refine' B.neg ?b1; (case b1 => walk_at "bd")))
local macro_rules | `(tactic| walk_at "da") => `(tactic| first
  | assumption
  | exact Da.int _
  | exact Da.non
  | exact Da.bl _
  | exact Da.str _
  | ((with_reducible refine' P3.mono (by assumption) ?d1); (case d1 => walk_at "da"))
  | ((with_reducible refine' Ra.mono (by assumption) ?d1); (case d1 => walk_at "da"))
  | ((with_reducible refine' TuR.mono (by assumption) ?d1); (case d1 => walk_at "da"))
  | ((with_reducible refine' LiR.mono (by assumption) ?d1); (case d1 => walk_at "da"))
  | ((with_reducible refine' Da.mono (by assumption) ?d1); (case d1 => walk_at "da")))
local macro_rules | `(tactic| walk_at "xt") => `(tactic| first
  | assumption
  | (refine' Xt.trans ?x1 (by assumption); (case x1 => walk_at "xt")))
local macro_rules | `(tactic| walk_at "w") => `(tactic| first
  | assumption
  | exact Xt.w2 (by assumption)
  | exact Xt.w1 (by assumption))
local macro_rules | `(tactic| walk_at "side") => `(tactic| first
  | assumption
  | (refine' B.cmul ?b1 ?b2 ?b3; (case b1 => walk_at "bd"); (case b2 => walk_at "bd"); (case b3 => first | decide | omega))
  | (refine' B.cdiv ?b1 ?b2 ?b3; (case b1 => assumption); (case b2 => walk_at "bd"); (case b3 => first | decide | omega)))
local macro_rules | `(tactic| walk_at "ea") => `(tactic| first
  | with_reducible exact ea_nil
  | ((with_reducible refine' ea_cons ?p1 ?p2); (case p1 => walk_at "ev"); (case p2 => walk_at "ea")))
local macro_rules | `(tactic| walk_at "et") => `(tactic| first
  | ((with_reducible refine' et_and ?p1 ?p2); (case p1 => walk_at "et"); (case p2 => intro _; walk_at "et"))
  | ((with_reducible refine' et_or ?p1 ?p2); (case p1 => walk_at "et"); (case p2 => intro _; walk_at "et"))
  | ((with_reducible refine' et_not ?p1); (case p1 => walk_at "et"))
  | ((with_reducible refine' et_test ?p1); (case p1 => walk_at "ev"))
  | ((with_reducible refine' et_B ?p1); (case p1 => walk_at "ev")))
local macro_rules | `(tactic| walk_at "ev") => `(tactic| first
  | with_reducible exact ev_c
  | ((with_reducible refine' ev_var ?v1); (case v1 => exact rfl))
  | ((with_reducible refine' ev_px ?p1 ?p2 ?p3); (case p1 => walk_at "ev"); (case p2 => walk_at "da"); (case p3 => with_reducible exact ev_c))
  | ((with_reducible refine' ev_py ?p1 ?p2 ?p3); (case p1 => walk_at "ev"); (case p2 => walk_at "da"); (case p3 => with_reducible exact ev_c))
  | ((with_reducible refine' ev_pw ?p1 ?p2 ?p3); (case p1 => walk_at "ev"); (case p2 => walk_at "da"); (case p3 => with_reducible exact ev_c))
  | ((with_reducible refine' ev_ixT ?p1 ?p2 ?p3 ?p4); (case p1 => walk_at "ev"); (case p2 => walk_at "da"); (case p3 => walk_at "ev"); (case p4 => first | exact rfl | assumption))
  | ((with_reducible refine' ev_ixL ?p1 ?p2 ?p3 ?p4); (case p1 => walk_at "ev"); (case p2 => walk_at "da"); (case p3 => walk_at "ev"); (case p4 => first | exact rfl | assumption))
  | ((with_reducible refine' ev_i0 ?p1 ?p2); (case p1 => walk_at "ev"); (case p2 => walk_at "ev"))
  | ((with_reducible refine' ev_iC ?p1 ?p2 ?p3); (case p1 => walk_at "ev"); (case p2 => walk_at "ev"); (case p3 => walk_at "side"))
  | ((with_reducible refine' ev_neg ?p1); (case p1 => walk_at "ev"))
  | ((with_reducible refine' ev_eq ?p1 ?p2 ?p3); (case p1 => walk_at "ev"); (case p2 => walk_at "ev"); (case p3 => exact rfl))
  | ((with_reducible refine' ev_ne ?p1 ?p2 ?p3); (case p1 => walk_at "ev"); (case p2 => walk_at "ev"); (case p3 => exact rfl))
  | ((with_reducible refine' ev_andV ?p1 ?p2); (case p1 => walk_at "ev"); (case p2 => intro _; walk_at "ev"))
  | ((with_reducible refine' ev_orV ?p1 ?p2); (case p1 => walk_at "ev"); (case p2 => intro _; walk_at "ev"))
  | ((with_reducible refine' ev_notV ?p1); (case p1 => walk_at "ev"))
  | ((with_reducible refine' ev_subB ?p1 ?p2); (case p1 => walk_at "ev"); (case p2 => walk_at "ev"))
  | ((with_reducible refine' ev_chI ?p1 ?p2 ?p3); (case p1 => walk_at "ev"); (case p2 => walk_at "ev"); (case p3 => walk_at "ev"))
  | ((with_reducible refine' ev_isInt ?p1 ?p2); (case p1 => walk_at "ev"); (case p2 => walk_at "da"))
  | ((with_reducible refine' ev_isBool ?p1 ?p2); (case p1 => walk_at "ev"); (case p2 => walk_at "da"))
  | ((with_reducible refine' ev_isStr ?p1 ?p2); (case p1 => walk_at "ev"); (case p2 => walk_at "da"))
  | ((with_reducible refine' ev_isTup ?p1 ?p2); (case p1 => walk_at "ev"); (case p2 => walk_at "da"))
  | ((with_reducible refine' ev_isLst ?p1 ?p2); (case p1 => walk_at "ev"); (case p2 => walk_at "da"))
  | ((with_reducible refine' ev_isTL ?p1 ?p2); (case p1 => walk_at "ev"); (case p2 => walk_at "da"))
  | ((with_reducible refine' ev_lenT ?p1 ?p2); (case p1 => walk_at "ev"); (case p2 => walk_at "da"))
  | ((with_reducible refine' ev_lenL ?p1 ?p2); (case p1 => walk_at "ev"); (case p2 => walk_at "da"))
  | ((with_reducible refine' ev_abs ?p1); (case p1 => walk_at "ev"))
  | ((with_reducible refine' ev_min2 ?p1 ?p2); (case p1 => walk_at "ev"); (case p2 => walk_at "ev"))
  | ((with_reducible refine' ev_int1 ?p1); (case p1 => walk_at "ev"))
  | ((with_reducible refine' ev_isN ?p1); (case p1 => walk_at "ev"))
  | ((with_reducible refine' ev_notN ?p1); (case p1 => walk_at "ev"))
  | ((with_reducible refine' ev_sign ?p1); (case p1 => walk_at "ev"))
  | ((with_reducible refine' ev_gcd ?p1 ?p2); (case p1 => walk_at "ev"); (case p2 => walk_at "ev"))
  | ((with_reducible refine' ev_is_in ?p1 ?p2 ?p3 ?p4); (case p1 => walk_at "ev"); (case p2 => walk_at "da"); (case p3 => walk_at "ev"); (case p4 => walk_at "ev"))
  | ((with_reducible refine' ev_doubled ?p1 ?p2 ?p3 ?p4 ?p5 ?p6 ?p7 ?p8 ?p9); (case p1 => walk_at "ev"); (case p2 => walk_at "ev"); (case p3 => walk_at "ev"); (case p4 => walk_at "da"); (case p5 => walk_at "da"); (case p6 => walk_at "da"); (case p7 => assumption); (case p8 => assumption); (case p9 => assumption))
  | ((with_reducible refine' ev_order_of ?p1 ?p2 ?p3 ?p4 ?p5 ?p6); (case p1 => walk_at "ev"); (case p2 => walk_at "ev"); (case p3 => walk_at "da"); (case p4 => walk_at "da"); (case p5 => assumption); (case p6 => assumption))
  | ((with_reducible refine' ev_turn_of ?p1 ?p2 ?p3 ?p4 ?p5 ?p6 ?p7 ?p8 ?p9); (case p1 => walk_at "ev"); (case p2 => walk_at "ev"); (case p3 => walk_at "ev"); (case p4 => walk_at "da"); (case p5 => walk_at "da"); (case p6 => walk_at "da"); (case p7 => assumption); (case p8 => assumption); (case p9 => assumption))
  | ((with_reducible refine' ev_is_between ?p1 ?p2 ?p3 ?p4 ?p5 ?p6 ?p7 ?p8 ?p9); (case p1 => walk_at "ev"); (case p2 => walk_at "ev"); (case p3 => walk_at "ev"); (case p4 => walk_at "da"); (case p5 => walk_at "da"); (case p6 => walk_at "da"); (case p7 => assumption); (case p8 => assumption); (case p9 => assumption)))
section
variable {P : Program} {w : World} {K : PySem.W.Frag} {mg : Str → Option Value} {base : Heap}
/-! a tuple whose object is known -/
def FzD (Z : Wd) (ds : List PyData) : Rl := fun x H => ∃ a ob xs, x = .ref a ∧ H a = some (.frz ob (.tup xs)) ∧ ob.dict = none ∧ ¬ Z.S a ∧ DaL Z H xs ds
theorem FzD.da {Z : Wd} {H : Hp} {ds : List PyData} {x : V} (h : FzD Z ds x H) : Da Z H x (.tuple ds) := by
  obtain ⟨a, ob, xs, rfl, h1, _, h2, h3⟩ := h
  exact .tup ⟨.inr ⟨ob, h1⟩⟩ h2 h3
theorem FzD.mono {Z : Wd} {H H' : Hp} {ds : List PyData} {x : V} (e : Xt Z H H') (h : FzD Z ds x H) : FzD Z ds x H' := by
  obtain ⟨a, ob, xs, h0, h1, h2, h3, h4⟩ := h
  exact ⟨a, ob, xs, h0, e.kp _ _ h3 h1, h2, h3, h4.mono e⟩
theorem ev_tupF {Z : Wd} {σ : L2.St} {H : Hp} {te : TE} {ds : List PyData} (h : Ev Z te σ H (DaR Z (.list ds))) : Ev Z (tCB (rTupF K) (tCons te tNil)) σ H (FzD Z ds) := fun H1 e Q q =>
  h H1 e _ fun w H2 e2 hw => by
    cases hw with
    | lst k1 k2 k3 => exact ⟨_, _, rfl, .inl (.inl k1), fun l ob hl hd => q _ _ (e2.trans (.new e2.w2 hl)) ⟨l, ob, _, rfl, upd_same, hd, nS e2.w2 hl, k3.mono (.new e2.w2 hl)⟩⟩
theorem ev_idx {Z : Wd} {σ : L2.St} {H : Hp} {ta tb : TE} {v y : V} {L : List Pt} {p : Pt} (ha : Ev Z ta σ H (IsV v)) (hv : FzD Z (L.map ptD) v H) (hb : Ev Z tb σ H (IsV y)) (hy : P3 Z y p H) (hp : p ∈ L) : Ev Z (tIdx K ta (tCons tb tNil)) σ H (fun x _ => ∃ j : Nat, x = .int (j : Int) ∧ j < L.length) := fun H1 e Q q =>
  ha H1 e _ fun x H2 e2 hx => by
    subst hx
    have e12 := e.trans e2
    obtain ⟨a, ob, xs, h0, h1, h2, h3, h4⟩ := hv.mono e12
    refine ⟨⟨a, ob, xs, h0, h1, h2⟩, hb H2 e12 _ fun y2 H3 e3 hy2 => ?_⟩
    subst hy2
    show rIndexTD K _ _ H3 Q
    subst h0
    have e13 := e12.trans e3
    have hd3 := (hv.mono e13).da
    have hl : L.idxOf p < L.length := List.idxOf_lt_length_iff.mpr hp
    have hg : L[L.idxOf p]? = some p := by rw [List.getElem?_eq_getElem hl, List.getElem_idxOf hl]
    have hfirst : ∀ m, m < L.idxOf p → ∀ q, L[m]? = some q → q ≠ p := fun m hm q hq e => by
      unfold List.idxOf at hm
      have := List.not_of_lt_findIdx hm
      have hmL := (List.getElem?_eq_some_iff.mp hq).1
      rw [List.getElem?_eq_getElem hmL] at hq
      cases hq
      rw [e] at this
      simp at this
    refine ⟨a, _, ptD p, L.map ptD, L.idxOf p, ptD p, rfl, rfl, hd3.dp (by simp [nod, pts_nod]), ((hy.mono e13).da).dp (ptD_nod p), (sm_pts L).sh (by decide), ptD_sh p, by rw [List.getElem?_map, hg]; rfl, by rw [ptD_eqv]; simp, fun m z' hm hz => ?_, q _ H3 (e2.trans e3) ⟨_, rfl, hl⟩⟩
    rw [List.getElem?_map] at hz
    cases hq : L[m]? with
    | none => rw [hq] at hz; cases hz
    | some qq =>
      rw [hq] at hz
      cases hz
      rw [ptD_eqv]
      exact decide_eq_false (hfirst m hm qq hq)
/-! lowest terms -/
def SOk (p : Pt) : Prop := Ok p ∧ -5000000000 ≤ p.x ∧ p.x ≤ 5000000000 ∧ -5000000000 ≤ p.y ∧ p.y ≤ 5000000000 ∧ p.w ≤ 10
def lowP (x y w : Int) : Pt := ⟨x.fdiv (gcdI (gcdI x y) w), y.fdiv (gcdI (gcdI x y) w), w.fdiv (gcdI (gcdI x y) w)⟩
theorem fd {x g : Int} (h : g ∣ x) : x.fdiv g * g = x := by
  rw [Int.fdiv_eq_ediv_of_dvd h]
  exact Int.ediv_mul_cancel h
theorem gcdI_scale (g x y w : Int) (hg : 0 < g) : gcdI (gcdI (g * x) (g * y)) (g * w) = g * gcdI (gcdI x y) w := by
  unfold gcdI
  rw [Int.gcd_mul_left]
  have : ((g.natAbs * Int.gcd x y : Nat) : Int) = g * ((Int.gcd x y : Nat) : Int) := by
    rw [Int.natCast_mul]
    congr 1
    omega
  rw [this, Int.gcd_mul_left, Int.natCast_mul]
  congr 1
  omega
theorem lowP_props {x y w : Int} (hw : 0 < w) : 0 < gcdI (gcdI x y) w ∧ (lowP x y w).x * gcdI (gcdI x y) w = x ∧ (lowP x y w).y * gcdI (gcdI x y) w = y ∧ (lowP x y w).w * gcdI (gcdI x y) w = w ∧ gcdI (gcdI (lowP x y w).x (lowP x y w).y) (lowP x y w).w = 1 := by
  have hg : 0 < gcdI (gcdI x y) w := gcd_pos (by omega)
  have dw : gcdI (gcdI x y) w ∣ w := gcd_dr _ _
  have dxy : gcdI (gcdI x y) w ∣ gcdI x y := gcd_dl _ _
  have dx := Int.dvd_trans dxy (gcd_dl x y)
  have dy := Int.dvd_trans dxy (gcd_dr x y)
  have ex := fd dx
  have ey := fd dy
  have ew := fd dw
  refine ⟨hg, ex, ey, ew, ?_⟩
  have k := gcdI_scale (gcdI (gcdI x y) w) (lowP x y w).x (lowP x y w).y (lowP x y w).w hg
  rw [Int.mul_comm _ (lowP x y w).x, Int.mul_comm _ (lowP x y w).y, Int.mul_comm _ (lowP x y w).w] at k
  rw [show (lowP x y w).x * gcdI (gcdI x y) w = x from ex, show (lowP x y w).y * gcdI (gcdI x y) w = y from ey, show (lowP x y w).w * gcdI (gcdI x y) w = w from ew] at k
  have : gcdI (gcdI x y) w * (gcdI (gcdI (lowP x y w).x (lowP x y w).y) (lowP x y w).w - 1) = 0 := by
    rw [Int.mul_sub, Int.mul_one, ← k]
    omega
  rcases Int.mul_eq_zero.mp this with h | h <;> omega
theorem lo_bd {a g M : Int} (hg : 0 < g) (h1 : -M ≤ a * g) (h2 : a * g ≤ M) (hM : 0 ≤ M) : -M ≤ a ∧ a ≤ M := by
  rcases Int.lt_trichotomy a 0 with h | h | h
  · have := Int.mul_le_mul_of_nonneg_left (show 1 ≤ g by omega) (show 0 ≤ -a by omega)
    rw [Int.neg_mul, Int.neg_mul] at this
    omega
  · subst h; omega
  · have := Int.mul_le_mul_of_nonneg_left (show 1 ≤ g by omega) (show 0 ≤ a by omega)
    omega
theorem lowP_ok {x y w : Int} (hw : 0 < w) (hw2 : w ≤ LG) (hx : -LG ≤ x ∧ x ≤ LG) (hy : -LG ≤ y ∧ y ≤ LG) : Ok (lowP x y w) := by
  obtain ⟨g, ex, ey, ew, e1⟩ := lowP_props (x := x) (y := y) hw
  have hL : (0 : Int) ≤ LG := by decide
  refine ⟨lo_bd g (by omega) (by omega) hL, lo_bd g (by omega) (by omega) hL, ?_, e1⟩
  have k := lo_bd (M := LG) g (a := (lowP x y w).w) (by omega) (by omega) hL
  have := pos_of ew g hw
  omega
theorem lowP_sok {x y w : Int} (hw : 0 < w) (hw2 : w ≤ 10) (hx : -5000000000 ≤ x ∧ x ≤ 5000000000) (hy : -5000000000 ≤ y ∧ y ≤ 5000000000) : SOk (lowP x y w) := by
  have ok := lowP_ok (x := x) (y := y) (w := w) hw (by unfold LG; omega) (by unfold LG; omega) (by unfold LG; omega)
  obtain ⟨g, ex, ey, ew, e1⟩ := lowP_props (x := x) (y := y) hw
  have k1 := lo_bd (M := 5000000000) g (a := (lowP x y w).x) (by omega) (by omega) (by omega)
  have k2 := lo_bd (M := 5000000000) g (a := (lowP x y w).y) (by omega) (by omega) (by omega)
  have k3 := lo_bd (M := 10) g (a := (lowP x y w).w) (by omega) (by omega) (by omega)
  exact ⟨ok, k1.1, k1.2, k2.1, k2.2, k3.2⟩
def G_l_lowest : Gv := fun Z vs H R => ∃ x y w, vs = [.int x, .int y, .int w] ∧ 0 < w ∧ B 64 w ∧ R = fun v H2 => P3 Z v (lowP x y w) H2
theorem ok_l_lowest (T : Tx K mg) : FnOk P w K mg base CX0 2 T.f_l_lowest T.d_l_lowest ["_law_x", "_law_y", "_law_w"] (spOf G_l_lowest) := by
  refine T.F_l_lowest.ok sc_l_lowest (fun vs H Q E h => ?_) (fun cdv A outer s H vs Q E hr h => ?_)
  · obtain ⟨Z, R, _, ⟨x, y, w, rfl, _⟩, _⟩ := h
    rfl
  obtain ⟨Z, R, hw, ⟨x, y, w', rfl, hw0, hb, rfl⟩, hq⟩ := h
  refine ⟨_, (pss_cons (ps_set (i := 3) sc_l_lowest.nd rfl (Or.inl rfl) (pe_call (ok_l_gcd T) (hr.mono (by decide)) (by rfl) T.g_l_gcd T.F_l_gcd.kp T.b_l_gcd .nil pass0 (pa_cons (pe_call (ok_l_gcd T) (hr.mono (by decide)) (by rfl) T.g_l_gcd T.F_l_gcd.kp T.b_l_gcd .nil pass0 (pa_cons (pv 0) (pa_cons (pv 1) pa_nil))) (pa_cons (pv 2) pa_nil))))
  (pss_cons (ps_set (i := 3) sc_l_lowest.nd rfl (Or.inl rfl) (pe_ifExp (pt_cmpR op_lt (pv 2) pe_int (nomark _)) (pe_op op_sub pe_int (pv 3)) (pv 3)))
  (pss_one (ps_ret (pe_tup (pa_cons (pe_op op_fdivA (pv 0) (pv 3)) (pa_cons (pe_op op_fdivA (pv 1) (pv 3)) (pa_cons (pe_op op_fdivA (pv 2) (pv 3)) pa_nil)))))))), ?_⟩
  rw [show L2.start nm_l_lowest [(.int x), (.int y), (.int w')] = [some (.int x), some (.int y), some (.int w'), none] from rfl]
  refine q_asg (Z := Z) (by walk_at "w") (ev_l_gcd (ev_l_gcd (by walk_at "ev") (by walk_at "ev")) (by walk_at "ev")) fun v1 H1 e1 r1 => ?_
  subst r1
  have hg := hb.gcdr (gcdI x y) (d := w') (by omega)
  have hp : 0 < gcdI (gcdI x y) w' := gcd_pos (by omega)
  have hne : gcdI (gcdI x y) w' ≠ 0 := by omega
  have c1 : CDivA x (gcdI (gcdI x y) w') := B.cdiv hne hg (by decide)
  have c2 : CDivA y (gcdI (gcdI x y) w') := B.cdiv hne hg (by decide)
  have c3 : CDivA w' (gcdI (gcdI x y) w') := B.cdiv hne hg (by decide)
  refine q_asg (Z := Z) (R := IsV (.int (gcdI (gcdI x y) w'))) (by walk_at "w") (ev_if (b := false) (et_is (by walk_at "et") (decide_eq_false (by omega))) (fun h => by cases h) (fun h => by walk_at "ev")) fun v2 H2 e2 r2 => ?_
  subst r2
  refine s_ret (Z := Z) (by walk_at "w") (ev_tup (by walk_at "ea") (by simp)) fun v2 H6 e6 r2 => ?_
  exact hq _ _ (by walk_at "xt") r2
section
variable {Z : Wd} {σ : L2.St} {H : Hp} {ta tb tc : TE} {E : XK}
theorem ev_l_lowest {x y w : Int} (h1 : Ev Z ta σ H (IsV (.int x))) (h2 : Ev Z tb σ H (IsV (.int y))) (h3 : Ev Z tc σ H (IsV (.int w))) (hw : 0 < w) (hb : B 64 w) : Ev Z (tCall (spOf G_l_lowest) [] E (tCons ta (tCons tb (tCons tc tNil)))) σ H (fun v H2 => P3 Z v (lowP x y w) H2) :=
  ev_call (ea_cons h1 (ea_cons h2 (ea_cons h3 ea_nil))) fun H1 e => ⟨x, y, w, rfl, hw, hb, rfl⟩
theorem ev_callW {G : Gv} {ta' : TA} {RA : List V → Hp → Prop} {R : Rl} (h : EvA Z ta' σ H RA) (hs : ∀ us H1, Xt Z H H1 → RA us H1 → ∃ R', G Z us H1 R' ∧ ∀ v H2, Xt Z H1 H2 → R' v H2 → R v H2) : Ev Z (tCall (spOf G) [] E ta') σ H R := fun H1 e Q q =>
  h H1 e _ fun us H2 e2 hu => by
    rw [List.append_nil]
    obtain ⟨R', h1, h2⟩ := hs us H2 (e.trans e2) hu
    exact ⟨Z, R', e2.w2, h1, fun v H3 e3 hv => q v H3 (e2.trans e3) (h2 v H3 e3 hv)⟩
/-- t[i] or xs[i], the place drawn -/
theorem ev_ixS {xs : List V} {v : V} (h : LiR Z xs v H ∨ TuR Z xs v H) (ha : Ev Z ta σ H (IsV v)) (hb : Ev Z tb σ H (DrR (xs.length : Int))) : Ev Z (tOp (rIx K) ta tb) σ H (fun x _ => ∃ i : Nat, xs[i]? = some x) :=
  ev_opX (Rb := fun _ => DrR (xs.length : Int)) ha (fun _ _ e _ => hb.mono e) fun x y H1 H2 e1 e2 hx ⟨k, hk, k0, k1⟩ Q q => by
    subst hx
    subst hk
    obtain ⟨j, rfl⟩ : ∃ j : Nat, k = (j : Int) := ⟨k.toNat, by omega⟩
    have hi : j < xs.length := by omega
    have hg : atI xs (j : Int) = some xs[j] := atI_nat (List.getElem?_eq_getElem hi)
    rcases h with ⟨a, rfl, h1, h2⟩ | ⟨a, rfl, h1, h2⟩
    · exact .inl ⟨a, xs, _, _, rfl, rfl, .inl (.inl ((e1.trans e2).kp _ _ h2 h1)), hg, q _ H2 (.refl e2.w2) ⟨j, List.getElem?_eq_getElem hi⟩⟩
    · exact .inr (.inl ⟨a, xs, _, _, rfl, rfl, .inl ((e1.trans e2).rd h2 h1).h, hg, q _ H2 (.refl e2.w2) ⟨j, List.getElem?_eq_getElem hi⟩⟩)
theorem ev_lenS {xs : List V} {v : V} (h : LiR Z xs v H ∨ TuR Z xs v H) (ha : Ev Z ta σ H (IsV v)) : Ev Z (tCB (rLen K) (tCons ta tNil)) σ H (IsV (.int (xs.length : Int))) := by
  rcases h with h | h
  · exact ev_lenL ha h
  · exact ev_lenT ha h
end
def G_l_pick (T : Tb K) : Gv := fun Z vs H R => ∃ ra sa ns vt xs, Z = Zr T ra sa ns ∧ vs = [.ref ra, vt] ∧ (LiR Z xs vt H ∨ TuR Z xs vt H) ∧ 1 ≤ xs.length ∧ xs.length ≤ 1000 ∧ R = fun x _ => ∃ i : Nat, xs[i]? = some x
theorem ok_l_pick (T : Tx K mg) : FnOk P w K mg base CX0 2 T.f_l_pick T.d_l_pick ["_law_row", "_law_things"] (spOf (G_l_pick (tbx T))) := by
  refine T.F_l_pick.ok sc_l_pick (fun vs H Q E h => ?_) (fun cdv A outer s H vs Q E hr h => ?_)
  · obtain ⟨Z, R, _, ⟨ra, sa, ns, vt, xs, _, rfl, _⟩, _⟩ := h
    rfl
  obtain ⟨_, R, hw, ⟨ra, sa, ns, vt, xs, rfl, rfl, hx, l1, l2, rfl⟩, hq⟩ := h
  refine ⟨_, (pss_one (ps_ret (pe_ix ix_seq (pv 1) (pe_call (ok_l_taken T) (hr.mono (by decide)) (by rfl) T.g_l_taken T.F_l_taken.kp T.b_l_taken .nil pass0 (pa_cons (pv 0) (pa_cons (pe_callB call_len_seq (by rfl) T.z_len (by decide +kernel) (pa_cons (pv 1) pa_nil)) pa_nil))) (fun _ _ => rfl)))), ?_⟩
  rw [show L2.start nm_l_pick [(.ref ra), vt] = [some (.ref ra), some vt] from rfl]
  exact s_ret (Z := Zr (tbx T) ra sa ns) (by walk_at "w") (ev_ixS hx (by walk_at "ev") (ev_taken (by walk_at "ev") (ev_lenS hx (by walk_at "ev")) (by omega) (by unfold B; omega))) fun v1 H1 e1 r1 => hq _ _ (by walk_at "xt") r1
def SgR (m : Int) : Rl := fun x _ => ∃ k : Int, x = .int k ∧ -m ≤ k ∧ k ≤ m
def G_l_signed (T : Tb K) : Gv := fun Z vs H R => ∃ ra sa ns m, Z = Zr T ra sa ns ∧ vs = [.ref ra, .int m] ∧ 0 ≤ m ∧ m ≤ 1000000 ∧ R = SgR m
theorem ok_l_signed (T : Tx K mg) : FnOk P w K mg base CX0 2 T.f_l_signed T.d_l_signed ["_law_row", "_law_most"] (spOf (G_l_signed (tbx T))) := by
  refine T.F_l_signed.ok sc_l_signed (fun vs H Q E h => ?_) (fun cdv A outer s H vs Q E hr h => ?_)
  · obtain ⟨Z, R, _, ⟨ra, sa, ns, m, _, rfl, _⟩, _⟩ := h
    rfl
  obtain ⟨_, R, hw, ⟨ra, sa, ns, m, rfl, rfl, m0, m1, rfl⟩, hq⟩ := h
  refine ⟨_, (pss_one (ps_ret (pe_op op_sub (pe_call (ok_l_taken T) (hr.mono (by decide)) (by rfl) T.g_l_taken T.F_l_taken.kp T.b_l_taken .nil pass0 (pa_cons (pv 0) (pa_cons (pe_op op_add (pe_op op_mulW pe_int (pv 1)) pe_int) pa_nil))) (pv 1)))), ?_⟩
  rw [show L2.start nm_l_signed [(.ref ra), (.int m)] = [some (.ref ra), some (.int m)] from rfl]
  have cm : CMulW 2 m := B.cmul (show B 64 2 by unfold B; decide) (show B 64 m by unfold B; omega) (by decide)
  refine s_ret (Z := Zr (tbx T) ra sa ns) (R := SgR m) (by walk_at "w") (ev_opX (Rb := fun _ => IsV (.int m)) (ev_taken (n := 2 * m + 1) (by walk_at "ev") (ev_i0 (ev_iC ev_c (by walk_at "ev") cm) ev_c) (by omega) (by unfold B; omega)) (fun _ _ _ _ => by walk_at "ev") fun x y H1 H2 e1 e2 ⟨k, hk, k0, k1⟩ hy Q q => ?_) fun v1 H1 e1 r1 => hq _ _ (by walk_at "xt") r1
  subst hk
  subst hy
  exact ⟨k, m, rfl, rfl, q _ H2 (.refl e2.w2) ⟨k - m, rfl, by omega, by omega⟩⟩
section
variable {TT : Tb K} {ra sa : Addr} {ns : Scr K sa} {σ : L2.St} {H : Hp} {ta tb tc : TE} {E : XK}
theorem ev_signed {m : Int} (h1 : Ev (Zr TT ra sa ns) ta σ H (IsV (.ref ra))) (h2 : Ev (Zr TT ra sa ns) tb σ H (IsV (.int m))) (m0 : 0 ≤ m) (m1 : m ≤ 1000000) : Ev (Zr TT ra sa ns) (tCall (spOf (G_l_signed TT)) [] E (tCons ta (tCons tb tNil))) σ H (SgR m) :=
  ev_call (ea_cons h1 (ea_cons h2 ea_nil)) fun H1 e => ⟨ra, sa, ns, m, rfl, rfl, m0, m1, rfl⟩
theorem ev_pick {vt : V} {xs : List V} (h1 : Ev (Zr TT ra sa ns) ta σ H (IsV (.ref ra))) (h2 : Ev (Zr TT ra sa ns) tb σ H (IsV vt)) (hx : LiR (Zr TT ra sa ns) xs vt H ∨ TuR (Zr TT ra sa ns) xs vt H) (l1 : 1 ≤ xs.length) (l2 : xs.length ≤ 1000) : Ev (Zr TT ra sa ns) (tCall (spOf (G_l_pick TT)) [] E (tCons ta (tCons tb tNil))) σ H (fun x _ => ∃ i : Nat, xs[i]? = some x) :=
  ev_call (ea_cons h1 (ea_cons h2 ea_nil)) fun H1 e => ⟨ra, sa, ns, vt, xs, rfl, rfl, hx.imp (·.mono e) (·.mono e), l1, l2, rfl⟩
/-- pick of a list that is made in the call -/
theorem ev_pickX {RR : V → Hp → Prop} (h1 : Ev (Zr TT ra sa ns) ta σ H (IsV (.ref ra))) (h2 : Ev (Zr TT ra sa ns) tb σ H (fun v H1 => ∃ xs, LiR (Zr TT ra sa ns) xs v H1 ∧ 1 ≤ xs.length ∧ xs.length ≤ 1000 ∧ ∀ i : Nat, ∀ x, xs[i]? = some x → ∀ H2, Xt (Zr TT ra sa ns) H1 H2 → RR x H2)) :
    Ev (Zr TT ra sa ns) (tCall (spOf (G_l_pick TT)) [] E (tCons ta (tCons tb tNil))) σ H RR := fun H0 e0 Q q =>
  h1 H0 e0 _ fun v1 H1 e1 r1 => h2 H1 (e0.trans e1) _ fun v2 H2 e2 ⟨xs, hx, l1, l2, hRR⟩ => by
    subst r1
    show spOf (G_l_pick TT) _ H2 Q E
    exact ⟨Zr TT ra sa ns, _, e2.w2, ⟨ra, sa, ns, v2, xs, rfl, rfl, .inl hx, l1, l2, rfl⟩, fun v H3 e3 ⟨i, hi⟩ => q _ _ ((e1.trans e2).trans e3) (hRR i v hi H3 e3)⟩
end
end
end Hk
/-! ## F21 -/
namespace Hk
open PySem PySem.Spec PyProof.Rows L2
local macro_rules | `(tactic| walk_at "bd") => `(tactic| first
  | assumption
  | exact (show B 64 _ from by unfold B; decide)
  | (refine' B.mul ?b1 ?b2; (case b1 => walk_at "bd"); (case b2 => walk_at "bd"))
  | (refine' B.sub ?b1 ?b2; (case b1 => walk_at "bd"); (case b2 => walk_at "bd"))
  | (refine' B.add ?b1 ?b2; (case b1 => walk_at "bd"); (case b2 => walk_at "bd"))
  | (refine' B.neg ?b1; (case b1 => walk_at "bd")))
local macro_rules | `(tactic| walk_at "da") => `(tactic| first
  | assumption
  | exact Da.int _
  | exact Da.non
  | exact Da.bl _
  | exact Da.str _
  | ((with_reducible refine' P3.mono (by assumption) ?d1); (case d1 => walk_at "da"))
  | ((with_reducible refine' Ra.mono (by assumption) ?d1); (case d1 => walk_at "da"))
  | ((with_reducible refine' TuR.mono (by assumption) ?d1); (case d1 => walk_at "da"))
  | ((with_reducible refine' LiR.mono (by assumption) ?d1); (case d1 => walk_at "da"))
  | ((with_reducible refine' Da.mono (by assumption) ?d1); (case d1 => walk_at "da")))
local macro_rules | `(tactic| walk_at "xt") => `(tactic| first
  | assumption
  | (refine' Xt.trans ?x1 (by assumption); (case x1 => walk_at "xt")))
local macro_rules | `(tactic| walk_at "w") => `(tactic| first
  | assumption
  | exact Xt.w2 (by assumption)
  | exact Xt.w1 (by assumption))
local macro_rules | `(tactic| walk_at "side") => `(tactic| first
  | assumption
  | (refine' B.cmul ?b1 ?b2 ?b3; (case b1 => walk_at "bd"); (case b2 => walk_at "bd"); (case b3 => first | decide | omega))
  | (refine' B.cdiv ?b1 ?b2 ?b3; (case b1 => assumption); (case b2 => walk_at "bd"); (case b3 => first | decide | omega)))
local macro_rules | `(tactic| walk_at "ea") => `(tactic| first
  | with_reducible exact ea_nil
  | ((with_reducible refine' ea_cons ?p1 ?p2); (case p1 => walk_at "ev"); (case p2 => walk_at "ea")))
local macro_rules | `(tactic| walk_at "et") => `(tactic| first
  | ((with_reducible refine' et_and ?p1 ?p2); (case p1 => walk_at "et"); (case p2 => intro _; walk_at "et"))
  | ((with_reducible refine' et_or ?p1 ?p2); (case p1 => walk_at "et"); (case p2 => intro _; walk_at "et"))
  | ((with_reducible refine' et_not ?p1); (case p1 => walk_at "et"))
  | ((with_reducible refine' et_test ?p1); (case p1 => walk_at "ev"))
  | ((with_reducible refine' et_B ?p1); (case p1 => walk_at "ev")))
local macro_rules | `(tactic| walk_at "ev") => `(tactic| first
  | with_reducible exact ev_c
  | ((with_reducible refine' ev_var ?v1); (case v1 => exact rfl))
  | ((with_reducible refine' ev_px ?p1 ?p2 ?p3); (case p1 => walk_at "ev"); (case p2 => walk_at "da"); (case p3 => with_reducible exact ev_c))
  | ((with_reducible refine' ev_py ?p1 ?p2 ?p3); (case p1 => walk_at "ev"); (case p2 => walk_at "da"); (case p3 => with_reducible exact ev_c))
  | ((with_reducible refine' ev_pw ?p1 ?p2 ?p3); (case p1 => walk_at "ev"); (case p2 => walk_at "da"); (case p3 => with_reducible exact ev_c))
  | ((with_reducible refine' ev_ixT ?p1 ?p2 ?p3 ?p4); (case p1 => walk_at "ev"); (case p2 => walk_at "da"); (case p3 => walk_at "ev"); (case p4 => first | exact rfl | assumption))
  | ((with_reducible refine' ev_ixL ?p1 ?p2 ?p3 ?p4); (case p1 => walk_at "ev"); (case p2 => walk_at "da"); (case p3 => walk_at "ev"); (case p4 => first | exact rfl | assumption))
  | ((with_reducible refine' ev_i0 ?p1 ?p2); (case p1 => walk_at "ev"); (case p2 => walk_at "ev"))
  | ((with_reducible refine' ev_iC ?p1 ?p2 ?p3); (case p1 => walk_at "ev"); (case p2 => walk_at "ev"); (case p3 => walk_at "side"))
  | ((with_reducible refine' ev_neg ?p1); (case p1 => walk_at "ev"))
  | ((with_reducible refine' ev_eq ?p1 ?p2 ?p3); (case p1 => walk_at "ev"); (case p2 => walk_at "ev"); (case p3 => exact rfl))
  | ((with_reducible refine' ev_ne ?p1 ?p2 ?p3); (case p1 => walk_at "ev"); (case p2 => walk_at "ev"); (case p3 => exact rfl))
  | ((with_reducible refine' ev_andV ?p1 ?p2); (case p1 => walk_at "ev"); (case p2 => intro _; walk_at "ev"))
  | ((with_reducible refine' ev_orV ?p1 ?p2); (case p1 => walk_at "ev"); (case p2 => intro _; walk_at "ev"))
  | ((with_reducible refine' ev_notV ?p1); (case p1 => walk_at "ev"))
  | ((with_reducible refine' ev_subB ?p1 ?p2); (case p1 => walk_at "ev"); (case p2 => walk_at "ev"))
  | ((with_reducible refine' ev_chI ?p1 ?p2 ?p3); (case p1 => walk_at "ev"); (case p2 => walk_at "ev"); (case p3 => walk_at "ev"))
  | ((with_reducible refine' ev_isInt ?p1 ?p2); (case p1 => walk_at "ev"); (case p2 => walk_at "da"))
  | ((with_reducible refine' ev_isBool ?p1 ?p2); (case p1 => walk_at "ev"); (case p2 => walk_at "da"))
  | ((with_reducible refine' ev_isStr ?p1 ?p2); (case p1 => walk_at "ev"); (case p2 => walk_at "da"))
  | ((with_reducible refine' ev_isTup ?p1 ?p2); (case p1 => walk_at "ev"); (case p2 => walk_at "da"))
  | ((with_reducible refine' ev_isLst ?p1 ?p2); (case p1 => walk_at "ev"); (case p2 => walk_at "da"))
  | ((with_reducible refine' ev_isTL ?p1 ?p2); (case p1 => walk_at "ev"); (case p2 => walk_at "da"))
  | ((with_reducible refine' ev_lenT ?p1 ?p2); (case p1 => walk_at "ev"); (case p2 => walk_at "da"))
  | ((with_reducible refine' ev_lenL ?p1 ?p2); (case p1 => walk_at "ev"); (case p2 => walk_at "da"))
  | ((with_reducible refine' ev_abs ?p1); (case p1 => walk_at "ev"))
  | ((with_reducible refine' ev_min2 ?p1 ?p2); (case p1 => walk_at "ev"); (case p2 => walk_at "ev"))
  | ((with_reducible refine' ev_int1 ?p1); (case p1 => walk_at "ev"))
  | ((with_reducible refine' ev_isN ?p1); (case p1 => walk_at "ev"))
  | ((with_reducible refine' ev_notN ?p1); (case p1 => walk_at "ev"))
  | ((with_reducible refine' ev_sign ?p1); (case p1 => walk_at "ev"))
  | ((with_reducible refine' ev_gcd ?p1 ?p2); (case p1 => walk_at "ev"); (case p2 => walk_at "ev"))
  | ((with_reducible refine' ev_is_in ?p1 ?p2 ?p3 ?p4); (case p1 => walk_at "ev"); (case p2 => walk_at "da"); (case p3 => walk_at "ev"); (case p4 => walk_at "ev"))
  | ((with_reducible refine' ev_doubled ?p1 ?p2 ?p3 ?p4 ?p5 ?p6 ?p7 ?p8 ?p9); (case p1 => walk_at "ev"); (case p2 => walk_at "ev"); (case p3 => walk_at "ev"); (case p4 => walk_at "da"); (case p5 => walk_at "da"); (case p6 => walk_at "da"); (case p7 => assumption); (case p8 => assumption); (case p9 => assumption))
  | ((with_reducible refine' ev_order_of ?p1 ?p2 ?p3 ?p4 ?p5 ?p6); (case p1 => walk_at "ev"); (case p2 => walk_at "ev"); (case p3 => walk_at "da"); (case p4 => walk_at "da"); (case p5 => assumption); (case p6 => assumption))
  | ((with_reducible refine' ev_turn_of ?p1 ?p2 ?p3 ?p4 ?p5 ?p6 ?p7 ?p8 ?p9); (case p1 => walk_at "ev"); (case p2 => walk_at "ev"); (case p3 => walk_at "ev"); (case p4 => walk_at "da"); (case p5 => walk_at "da"); (case p6 => walk_at "da"); (case p7 => assumption); (case p8 => assumption); (case p9 => assumption))
  | ((with_reducible refine' ev_is_between ?p1 ?p2 ?p3 ?p4 ?p5 ?p6 ?p7 ?p8 ?p9); (case p1 => walk_at "ev"); (case p2 => walk_at "ev"); (case p3 => walk_at "ev"); (case p4 => walk_at "da"); (case p5 => walk_at "da"); (case p6 => walk_at "da"); (case p7 => assumption); (case p8 => assumption); (case p9 => assumption)))
section
variable {P : Program} {w : World} {K : PySem.W.Frag} {mg : Str → Option Value} {base : Heap}
/-! tests whose outcome is drawn -/
def EvP (Z : Wd) (tt : TT) (σ : L2.St) (H : Hp) (Pp : Prop) : Prop := ∀ H1, Xt Z H H1 → ∀ Q : Bool → Hp → Prop, (∀ b H2, Xt Z H1 H2 → (b = true → Pp) → Q b H2) → tt σ H1 Q
section
variable {Z : Wd} {σ : L2.St} {H : Hp} {t u : TT} {D : Ends} {tu tz : TS} {Pp Qp : Prop} {te : TE}
theorem evp_T {b : Bool} (h : EvT Z t σ H b) : EvP Z t σ H (b = true) := fun H1 e Q q => h H1 e _ fun H2 e2 => q b H2 e2 id
theorem evp_and (h1 : EvP Z t σ H Pp) (h2 : Pp → EvP Z u σ H Qp) : EvP Z (tAnd t u) σ H (Pp ∧ Qp) := fun H1 e Q q => h1 H1 e _ fun b H2 e2 hb => by
  cases b with
  | true => exact h2 (hb rfl) H2 (e.trans e2) Q fun c H3 e3 hc => q c H3 (e2.trans e3) fun hcc => ⟨hb rfl, hc hcc⟩
  | false => exact q false H2 e2 fun z => nomatch z
theorem evp_test {n : Int} {j : Int} (h : Ev Z te σ H (DrR n)) : EvP Z (tTest (tOp rEq te (tC (.int j)))) σ H True := fun H1 e Q q => h H1 e _ fun v H2 e2 ⟨k, hk, _⟩ => by
  subst hk
  exact ⟨rfl, _, rfl, q _ H2 e2 fun _ => trivial⟩
theorem q_whenP (w : Z.W H) (h : EvP Z t σ H Pp) (h1 : Pp → ∀ H1, Xt Z H H1 → tu { D with nx := tz D } σ H1) (h2 : ∀ H1, Xt Z H H1 → tz D σ H1) : tSeq (tIfS t tu tNext) tz D σ H := h H (.refl w) _ fun b H1 e hb => by
  cases b with
  | true => exact h1 (hb rfl) H1 e
  | false => exact h2 H1 e
end
def bd (k : Nat) : Int := 40 * 3 ^ k
theorem bd_s (k : Nat) : bd (k + 1) = 3 * bd k := by unfold bd; rw [Int.pow_succ]; omega
theorem bd_pos (k : Nat) : 40 ≤ bd k := by
  induction k with
  | zero => decide
  | succ k ih => rw [bd_s]; omega
structure SmP (k : Nat) (p : Pt) : Prop where
  x : -bd k ≤ p.x ∧ p.x ≤ bd k
  y : -bd k ≤ p.y ∧ p.y ≤ bd k
  w : p.w = 1
theorem SmP.up {k : Nat} {p : Pt} (h : SmP k p) : SmP (k + 1) p := by
  have := bd_pos k
  have e := bd_s k
  obtain ⟨h1, h2, h3⟩ := h
  exact ⟨by omega, by omega, h3⟩
theorem SmP.six {k : Nat} {p : Pt} (h : SmP k p) (hk : k ≤ 6) : SmP 6 p := by
  obtain ⟨d, hd⟩ : ∃ d, k + d = 6 := ⟨6 - k, by omega⟩
  induction d generalizing k with
  | zero => rw [← hd]; exact h
  | succ d ih => exact ih h.up (by omega) (by omega)
theorem SmP.nm {k : Nat} {p : Pt} (h : SmP k p) (hk : k ≤ 6) : Nm p := by
  obtain ⟨h1, h2, h3⟩ := h.six hk
  have e : bd 6 = 29160 := by decide
  rw [e] at h1 h2
  refine ⟨?_, ?_, ?_, by omega⟩ <;> (unfold B; omega)
structure LQ (L : List Pt) (m : Nat) : Prop where
  nd : L.Nodup
  le : L.length ≤ m
  sm : ∀ p ∈ L, SmP L.length p
theorem LQ.app {L : List Pt} {m : Nat} {p : Pt} (h : LQ L m) (hp : SmP (L.length + 1) p) (hn : p ∉ L) (hl : L.length < m) : LQ (L ++ [p]) m := by
  obtain ⟨h1, h2, h3⟩ := h
  refine ⟨?_, by simp; omega, fun q hq => ?_⟩
  · rw [List.nodup_append]
    refine ⟨h1, by simp, fun a ha b hb => ?_⟩
    rcases List.mem_singleton.mp hb with rfl
    exact fun e => hn (e ▸ ha)
  · rw [List.length_append, List.length_singleton]
    rcases List.mem_append.mp hq with hq | hq
    · exact (h3 q hq).up
    · rcases List.mem_singleton.mp hq with rfl
      exact hp
def GrR (Z : Wd) (s : Int) : Rl := fun v H => ∃ p, P3 Z v p H ∧ (-s ≤ p.x ∧ p.x ≤ s) ∧ (-s ≤ p.y ∧ p.y ≤ s) ∧ p.w = 1
def G_l_grid (T : Tb K) : Gv := fun Z vs H R => ∃ ra sa ns m, Z = Zr T ra sa ns ∧ vs = [.ref ra, .int m] ∧ 0 ≤ m ∧ m ≤ 1000000 ∧ R = GrR Z m
theorem ok_l_grid (T : Tx K mg) : FnOk P w K mg base CX0 3 T.f_l_grid T.d_l_grid ["_law_row", "_law_size"] (spOf (G_l_grid (tbx T))) := by
  refine T.F_l_grid.ok sc_l_grid (fun vs H Q E h => ?_) (fun cdv A outer s H vs Q E hr h => ?_)
  · obtain ⟨Z, R, _, ⟨ra, sa, ns, m, _, rfl, _⟩, _⟩ := h
    rfl
  obtain ⟨_, R, hw, ⟨ra, sa, ns, m, rfl, rfl, m0, m1, rfl⟩, hq⟩ := h
  refine ⟨_, (pss_one (ps_ret (pe_tup (pa_cons (pe_call (ok_l_signed T) (hr.mono (by decide)) (by rfl) T.g_l_signed T.F_l_signed.kp T.b_l_signed .nil pass0 (pa_cons (pv 0) (pa_cons (pv 1) pa_nil))) (pa_cons (pe_call (ok_l_signed T) (hr.mono (by decide)) (by rfl) T.g_l_signed T.F_l_signed.kp T.b_l_signed .nil pass0 (pa_cons (pv 0) (pa_cons (pv 1) pa_nil))) (pa_cons pe_int pa_nil)))))), ?_⟩
  rw [show L2.start nm_l_grid [(.ref ra), (.int m)] = [some (.ref ra), some (.int m)] from rfl]
  refine s_ret (Z := Zr (tbx T) ra sa ns) (R := GrR (Zr (tbx T) ra sa ns) m) (by walk_at "w") (EvN.ev (en_tup (RA := fun us _ => ∃ x y : Int, us = [.int x, .int y, .int 1] ∧ (-m ≤ x ∧ x ≤ m) ∧ (-m ≤ y ∧ y ≤ m)) (ea_consX (ev_signed (by walk_at "ev") (by walk_at "ev") m0 m1) fun v1 H1 e1 ⟨x, hx, x1, x2⟩ => ea_consX (ev_signed (by walk_at "ev") (by walk_at "ev") m0 m1) fun v2 H2 e2 ⟨y, hy, y1, y2⟩ => ea_consX (R := IsV (.int 1)) ev_c fun v3 H3 e3 h3 => ea_nilX fun H4 e4 => ⟨x, y, by rw [hx, hy, h3], ⟨x1, x2⟩, y1, y2⟩) (fun us H1 ⟨_, _, h, _⟩ => by rw [h]; simp)) fun q H1 e1 _ ⟨us, H2, ⟨x, y, hu, hx, hy⟩, _, _, hq1, hq2⟩ => ⟨⟨x, y, 1⟩, ⟨q, rfl, ⟨.inl (by rw [hq1, hu])⟩, hq2⟩, hx, hy, rfl⟩) fun v1 H1 e1 r1 => hq _ _ (by walk_at "xt") r1
section
variable {TT : Tb K} {ra sa : Addr} {ns : Scr K sa} {σ : L2.St} {H : Hp} {ta tb tc : TE} {E : XK}
theorem ev_grid {m : Int} (h1 : Ev (Zr TT ra sa ns) ta σ H (IsV (.ref ra))) (h2 : Ev (Zr TT ra sa ns) tb σ H (IsV (.int m))) (m0 : 0 ≤ m) (m1 : m ≤ 1000000) : Ev (Zr TT ra sa ns) (tCall (spOf (G_l_grid TT)) [] E (tCons ta (tCons tb tNil))) σ H (GrR (Zr TT ra sa ns) m) :=
  ev_call (ea_cons h1 (ea_cons h2 ea_nil)) fun H1 e => ⟨ra, sa, ns, m, rfl, rfl, m0, m1, rfl⟩
end
def R8 : List Pt := [⟨5, 0, 1⟩, ⟨3, 4, 1⟩, ⟨4, 3, 1⟩, ⟨0, 5, 1⟩, ⟨-3, 4, 1⟩, ⟨-5, 0, 1⟩, ⟨-4, -3, 1⟩, ⟨0, -5, 1⟩]
def R9 : List Pt := R8 ++ [⟨3, -4, 1⟩]
theorem R9_sm : ∀ p ∈ R9, SmP 0 p := by
  have e : bd 0 = 40 := by decide
  intro p hp
  simp only [R9, R8, List.cons_append, List.nil_append, List.mem_cons, List.not_mem_nil, or_false] at hp
  rcases hp with rfl | rfl | rfl | rfl | rfl | rfl | rfl | rfl | rfl <;> exact ⟨by rw [e]; decide, by rw [e]; decide, rfl⟩
structure PQ (L : List Pt) : Prop where
  nd : L.Nodup
  l1 : 1 ≤ L.length
  l6 : L.length ≤ 6
  sm : ∀ p ∈ L, SmP 6 p
def G_l_points (T : Tb K) : Gv := fun Z vs H R => ∃ ra sa ns m, Z = Zr T ra sa ns ∧ vs = [.ref ra, .int 1, .int 6, .int m] ∧ 0 ≤ m ∧ m ≤ 5 ∧ R = fun v H2 => ∃ L, PQ L ∧ FzD Z (L.map ptD) v H2
theorem ok_l_points (T : Tx K mg) : FnOk P w K mg base CX0 4 T.f_l_points T.d_l_points ["_law_row", "_law_least", "_law_most", "_law_size"] (spOf (G_l_points (tbx T))) := by
  refine T.F_l_points.ok sc_l_points (fun vs H Q E h => ?_) (fun cdv A outer s H vs Q E hr h => ?_)
  · obtain ⟨Z, R, _, ⟨ra, sa, ns, m, _, rfl, _⟩, _⟩ := h
    rfl
  obtain ⟨_, R, hw, ⟨ra, sa, ns, sz, rfl, rfl, m0, m1, rfl⟩, hq⟩ := h
  refine ⟨_, (pss_cons (ps_par (i := 4) (j := 5) rfl sc_l_points.nd rfl rfl (by decide) rfl rfl (pa_cons (pe_lst pa_nil) (pa_cons (pe_op op_add (pv 1) (pe_call (ok_l_taken T) (hr.mono (by decide)) (by rfl) T.g_l_taken T.F_l_taken.kp T.b_l_taken .nil pass0 (pa_cons (pv 0) (pa_cons (pe_op op_add (pe_op op_sub (pv 2) (pv 1)) pe_int) pa_nil)))) pa_nil)) (by rfl))
  (pss_cons (ps_set (i := 6) sc_l_points.nd rfl (Or.inl rfl) (pe_lst (pa_cons (pe_tup (pa_cons pe_int (pa_cons pe_int (pa_cons pe_int pa_nil)))) (pa_cons (pe_tup (pa_cons pe_int (pa_cons pe_int (pa_cons pe_int pa_nil)))) (pa_cons (pe_tup (pa_cons pe_int (pa_cons pe_int (pa_cons pe_int pa_nil)))) (pa_cons (pe_tup (pa_cons pe_int (pa_cons pe_int (pa_cons pe_int pa_nil)))) (pa_cons (pe_tup (pa_cons (pe_un un_neg pe_int) (pa_cons pe_int (pa_cons pe_int pa_nil)))) (pa_cons (pe_tup (pa_cons (pe_un un_neg pe_int) (pa_cons pe_int (pa_cons pe_int pa_nil)))) (pa_cons (pe_tup (pa_cons (pe_un un_neg pe_int) (pa_cons (pe_un un_neg pe_int) (pa_cons pe_int pa_nil)))) (pa_cons (pe_tup (pa_cons pe_int (pa_cons (pe_un un_neg pe_int) (pa_cons pe_int pa_nil)))) pa_nil))))))))))
  (pss_cons (ps_set (i := 6) sc_l_points.nd rfl (Or.inl rfl) (pe_op op_cat (pv 6) (pe_lst (pa_cons (pe_tup (pa_cons pe_int (pa_cons (pe_un un_neg pe_int) (pa_cons pe_int pa_nil)))) pa_nil))))
  (pss_cons (ps_set (i := 7) sc_l_points.nd rfl (Or.inl rfl) (pe_call (ok_l_taken T) (hr.mono (by decide)) (by rfl) T.g_l_taken T.F_l_taken.kp T.b_l_taken .nil pass0 (pa_cons (pv 0) (pa_cons pe_int pa_nil))))
  (pss_cons (ps_for PassesOwn.never rfl (pi_range1 (by rfl) T.z_range (pa_cons (pe_op op_mulW pe_int (pv 5)) pa_nil)) (pg_name (i := 8) sc_l_points.nd rfl (Or.inl rfl))
  (pss_cons (ps_set (i := 9) sc_l_points.nd rfl (Or.inl rfl) (pe_ifExp (pt_cmpR op_eq (pv 7) pe_int (nomark _)) (pe_call (ok_l_pick T) (hr.mono (by decide)) (by rfl) T.g_l_pick T.F_l_pick.kp T.b_l_pick .nil pass0 (pa_cons (pv 0) (pa_cons (pv 6) pa_nil))) (pe_call (ok_l_grid T) (hr.mono (by decide)) (by rfl) T.g_l_grid T.F_l_grid.kp T.b_l_grid .nil pass0 (pa_cons (pv 0) (pa_cons (pv 3) pa_nil)))))
    (pss_cons (ps_if (PW.pt (pw_and (pt_cmpR op_eq (pv 7) pe_int (nomark _)) (pw_and (pt_cmpR op_gt (pe_callB call_len_seq (by rfl) T.z_len (by decide +kernel) (pa_cons (pv 4) pa_nil)) pe_int (nomark _)) (pw_and1 (pt_cmpR op_eq (pe_call (ok_l_taken T) (hr.mono (by decide)) (by rfl) T.g_l_taken T.F_l_taken.kp T.b_l_taken .nil pass0 (pa_cons (pv 0) (pa_cons pe_int pa_nil))) pe_int (nomark _))))))
    (pss_cons (ps_par (i := 10) (j := 11) rfl sc_l_points.nd rfl rfl (by decide) rfl rfl (pa_cons (pe_call (ok_l_pick T) (hr.mono (by decide)) (by rfl) T.g_l_pick T.F_l_pick.kp T.b_l_pick .nil pass0 (pa_cons (pv 0) (pa_cons (pv 4) pa_nil))) (pa_cons (pe_call (ok_l_pick T) (hr.mono (by decide)) (by rfl) T.g_l_pick T.F_l_pick.kp T.b_l_pick .nil pass0 (pa_cons (pv 0) (pa_cons (pv 4) pa_nil))) pa_nil)) (by rfl))
      (pss_one (ps_set (i := 9) sc_l_points.nd rfl (Or.inl rfl) (pe_tup (pa_cons (pe_op op_sub (pe_op op_mulW pe_int (pe_ix ix_tup (pv 11) pe_int (fun _ _ => rfl))) (pe_ix ix_tup (pv 10) pe_int (fun _ _ => rfl))) (pa_cons (pe_op op_sub (pe_op op_mulW pe_int (pe_ix ix_tup (pv 11) pe_int (fun _ _ => rfl))) (pe_ix ix_tup (pv 10) pe_int (fun _ _ => rfl))) (pa_cons pe_int pa_nil)))))))
    pss_nil)
    (pss_one (ps_if (PW.pt (pw_and (pt_cmpR (op_notInD (un65 hr)) (pv 9) (pv 4) (by rfl)) (pw_and1 (pt_cmpR op_lt (pe_callB call_len_seq (by rfl) T.z_len (by decide +kernel) (pa_cons (pv 4) pa_nil)) (pv 5) (nomark _)))))
    (pss_one (ps_expr (pe_bm PySem.F.plainAttrs_list PySem.F.slot_list_append PySem.F.type_list_append mt_append (pv 4) (pa_cons (pv 9) pa_nil))))
    pss_nil)))))
  (pss_cons (ps_for PassesOwn.never rfl (pi_range1 (by rfl) T.z_range (pa_cons (pv 5) pa_nil)) (pg_name (i := 8) sc_l_points.nd rfl (Or.inl rfl))
  (pss_cons (ps_set (i := 9) sc_l_points.nd rfl (Or.inl rfl) (pe_tup (pa_cons (pv 8) (pa_cons (pe_op op_sub (pe_op op_mulW (pv 8) (pv 8)) pe_int) (pa_cons pe_int pa_nil)))))
    (pss_one (ps_if (PW.pt (pw_and (pt_cmpR (op_notInD (un65 hr)) (pv 9) (pv 4) (by rfl)) (pw_and1 (pt_cmpR op_lt (pe_callB call_len_seq (by rfl) T.z_len (by decide +kernel) (pa_cons (pv 4) pa_nil)) (pv 5) (nomark _)))))
    (pss_one (ps_expr (pe_bm PySem.F.plainAttrs_list PySem.F.slot_list_append PySem.F.type_list_append mt_append (pv 4) (pa_cons (pv 9) pa_nil))))
    pss_nil))))
  (pss_one (ps_ret (pe_callTy call_tupF (by rfl) T.z_tuple (by decide +kernel) (pa_cons (pv 4) pa_nil)))))))))), ?_⟩
  rw [show L2.start nm_l_points [(.ref ra), (.int 1), (.int 6), (.int sz)] = [some (.ref ra), some (.int 1), some (.int 6), some (.int sz), none, none, none, none, none, none, none, none] from rfl]
  generalize hZ : Zr (tbx T) ra sa ns = Z at *
  have hB : ∀ n : Int, 0 ≤ n → n ≤ 1000 → B 64 n := fun n h1 h2 => by unfold B; omega
  refine q_par (Z := Z) (by walk_at "w") (RA := fun us H6 => ∃ f m B0, us = [.ref f, .int ((m : Nat) : Int)] ∧ 1 ≤ m ∧ m ≤ 6 ∧ Xt Z H B0 ∧ Xt Z B0 H6 ∧ Fr B0 f ∧ ¬ Z.S f ∧ H6 f = some (.lst [])) (ea_consX (EvN.fr (en_lst' ea_nil (by simp))) fun v1 H1 e1 ⟨f, h1, h2, h3, h4⟩ => ea_consX (R := fun x _ => ∃ k : Int, x = .int k ∧ 1 ≤ k ∧ k ≤ 6) ?_ fun v2 H2 e2 ⟨k, h5, h6, h7⟩ => ea_nilX fun H3 e3 => ⟨f, k.toNat, H, by rw [h1, h5, Int.toNat_of_nonneg (by omega)], by omega, by omega, .refl hw, e1.trans (e2.trans e3), h2, h3, (e2.trans e3).kp _ _ h3 h4.1⟩) fun us H6 e6 ⟨f, m, B0, hus, hm1, hm6, eB, eB6, ff, nf, hf6⟩ => ⟨_, _, hus, ?_⟩
  · subst hZ
    refine ev_opX (Ra := IsV (.int 1)) (Rb := fun _ => DrR (6 - 1 + 1)) (by walk_at "ev") (fun x H2 _ _ => ev_taken (by walk_at "ev") (by walk_at "ev") (by decide) (hB _ (by decide) (by decide))) fun x y H2 H3 e2 e3 hx ⟨k, hk, k0, k1⟩ Q q => ?_
    subst hx
    subst hk
    exact ⟨1, k, rfl, rfl, q _ H3 (.refl e3.w2) ⟨1 + k, rfl, by omega, by omega⟩⟩
  show tSeq _ _ _ [some (.ref ra), some (.int 1), some (.int 6), some (.int sz), some (.ref f), some (.int (m : Int)), none, none, none, none, none, none] H6
  have e06 := eB.trans eB6
  refine q_asg (Z := Z) (R := DaR Z (.list (R8.map ptD))) (by walk_at "w") (ev_lstD (ds := R8.map ptD) ?_ (by decide)) fun v7 H7 e7 r7 => ?_
  · have tp : ∀ {a b c : Int} {ta tb tc : TE} {σ H5}, Ev Z ta σ H5 (IsV (.int a)) → Ev Z tb σ H5 (IsV (.int b)) → Ev Z tc σ H5 (IsV (.int c)) → Ev Z (tTup (tCons ta (tCons tb (tCons tc tNil)))) σ H5 (DaR Z (ptD ⟨a, b, c⟩)) := fun {a b c ta tb tc σ H5} h1 h2 h3 => ev_tupD (ds := [.int a, .int b, .int c]) (ea_consD (ev_da h1 (.int a)) (ea_consD (ev_da h2 (.int b)) (ea_consD (ev_da h3 (.int c)) ea_nilD))) (by simp)
    exact ea_consD (tp ev_c ev_c ev_c) (ea_consD (tp ev_c ev_c ev_c) (ea_consD (tp ev_c ev_c ev_c) (ea_consD (tp ev_c ev_c ev_c) (ea_consD (tp (ev_neg ev_c) ev_c ev_c) (ea_consD (tp (ev_neg ev_c) ev_c ev_c) (ea_consD (tp (ev_neg ev_c) (ev_neg ev_c) ev_c) (ea_consD (tp ev_c (ev_neg ev_c) ev_c) ea_nilD)))))))
  refine q_asg (Z := Z) (R := DaR Z (.list (R9.map ptD))) (by walk_at "w") (ev_cat (ds := R8.map ptD) (es := [ptD ⟨3, -4, 1⟩]) (ev_da (by walk_at "ev") r7) (ev_lstD (ea_consD (ev_tupD (ds := [.int 3, .int (-4), .int 1]) (ea_consD (ev_da ev_c (.int 3)) (ea_consD (ev_da (ev_neg ev_c) (.int (-4))) (ea_consD (ev_da ev_c (.int 1)) ea_nilD))) (by simp)) ea_nilD) (by simp)) (by decide)) fun vr H8 e8 r8 => ?_
  obtain ⟨rs, hrs, hrsd⟩ := Da.lstE r8
  have rsl : rs.length = 9 := by rw [hrsd.length]; rfl
  have hf8 : H8 f = some (.lst []) := (e7.trans e8).kp _ _ nf hf6
  have hvf : ∀ a, vr = .ref a → a ≠ f := fun a ha z => by
    obtain ⟨b, hb, h1, _⟩ := hrs
    rw [ha] at hb
    cases hb
    rw [z, hf8] at h1
    cases h1
    simp at rsl
  refine q_asg (Z := Z) (R := DrR 4) (by walk_at "w") (by subst hZ; exact ev_taken (by walk_at "ev") ev_c (by decide) (hB _ (by decide) (by decide))) fun vw H9 e9 ⟨way, hway, _, _⟩ => ?_
  subst hway
  let Iv : Hp → List Pt → Prop := fun H' L => Xt Z B0 H' ∧ (∃ xs, H' f = some (.lst xs) ∧ DaL Z H' xs (L.map ptD)) ∧ LiR Z rs vr H' ∧ DaL Z H' rs (R9.map ptD)
  have ivm : ∀ {H1 H2 L}, Iv H1 L → Xt Z H1 H2 → Iv H2 L := fun {H1 H2 L} ⟨h1, ⟨xs, h2, h3⟩, h4, h5⟩ e => ⟨h1.trans e, ⟨xs, e.kp _ _ nf h2, h3.mono e⟩, h4.mono e, h5.mono e⟩
  have iva : ∀ {H1 L xs vp p}, Iv H1 L → H1 f = some (.lst xs) → DaL Z H1 xs (L.map ptD) → P3 Z vp p H1 → Iv (upd H1 f (.lst (xs ++ [vp]))) (L ++ [p]) := fun {H1 L xs vp p} ⟨h1, _, h4, h5⟩ h2 h3 hp => by
    refine ⟨Xt.mut h1 ff nf h2, ⟨xs ++ [vp], upd_same, ?_⟩, h4.mut' (xs0 := []) hvf, DaL.mut h2 (pts_noL _) h5⟩
    rw [List.map_append]
    exact (DaL.mut h2 (pts_noL _) h3).append (.cons (Da.mut h2 (ptD_noL p) hp.da) .nil)
  -- if p is new: append it
  have fin : ∀ (D : Ends) (L : List Pt) (p : Pt) (vp : V) (σ : L2.St) (H' : Hp), σ[9]? = some (some vp) → σ[4]? = some (some (.ref f)) → σ[5]? = some (some (.int (m : Int))) → Iv H' L → P3 Z vp p H' → LQ L m → SmP (L.length + 1) p → (∀ H2 L', Iv H2 L' → LQ L' m → L' ≠ [] → D.nx σ H2) →
      tIfS (tAnd (tTest (tOp (rNotInD K) (tVar 9) (tVar 4))) (tTest (tOp (rI0 fun i j => .bl (decide (i < j))) (tCB (rLen K) (tCons (tVar 4) tNil)) (tVar 5)))) (tDrop (tBM K "list" rAppend (tVar 4) (tCons (tVar 9) tNil))) tNext D σ H' := fun D L p vp σ H' s9 s4 s5 iv pp lq sp k => by
    obtain ⟨h1, ⟨xs, h2, h3⟩, h4, h5⟩ := id iv
    have hl : LiR Z xs (.ref f) H' := ⟨f, rfl, h2, nf⟩
    have xl : xs.length = L.length := by rw [h3.length, List.length_map]
    refine s_when (Z := Z) (b := decide (p ∉ L) && decide (L.length < m)) h1.w2 (et_and (et_test (ev_is (ev_notInD (ds := L.map ptD) (ev_da (ev_var s9) pp.da) (ev_da (ev_var s4) (hl.da h3)) (ptD_nod p) (pts_nod L) (ptD_sh p) ((sm_ptsL L).sh (by decide))) (by rw [any_ptD, decide_not]))) fun _ => et_test (ev_is (ev_i0 (ev_lenL (ev_var s4) hl) (ev_var s5)) (by rw [xl]; exact congrArg V.bl (decide_eq_decide.mpr (by omega))))) (fun hb H2 e2 => ?_) (fun hb H2 e2 => ?_)
    · rw [Bool.and_eq_true, decide_eq_true_iff, decide_eq_true_iff] at hb
      refine s_app (Z := Z) (l := f) (xs := xs) e2.w2 (e2.kp _ _ nf h2) nf (ev_var s4) (ev_var s9) (by have := lq.le; omega) fun v3 H3 e3 r3 hf3 => ?_
      subst r3
      have e23 := e2.trans e3
      exact k _ _ (iva (ivm iv e23) hf3 (h3.mono e23) (pp.mono e23)) (lq.app sp hb.1 hb.2) (by simp)
    · refine k _ L (ivm iv e2) lq fun hL => ?_
      subst hL
      simp at hb
      omega
  have iv9 : Iv H9 [] := ⟨eB6.trans (e7.trans (e8.trans e9)), ⟨[], e9.kp _ _ nf hf8, .nil⟩, hrs.mono e9, hrsd.mono e9⟩
  have cm4 : CMulW 4 (m : Int) := B.cmul (hB 4 (by decide) (by decide)) (hB m (by omega) (by omega)) (by decide)
  refine q_forR1 (Z := Z) (n := 4 * (m : Int)) iv9.1.w2 (ea_cons (ev_iC ev_c (by walk_at "ev") cm4) ea_nil) ⟨by omega, by omega⟩ (fun i σ' H' => ∃ (L : List Pt) (y8 y9 y10 y11 : Option V), σ' = [some (.ref ra), some (.int 1), some (.int 6), some (.int sz), some (.ref f), some (.int (m : Int)), some vr, some (.int way), y8, y9, y10, y11] ∧ Iv H' L ∧ LQ L m ∧ (0 < i → L ≠ [])) (fun H1 e1 => ⟨[], none, none, none, none, rfl, ivm iv9 e1, ⟨by simp, by simp, fun p hp => by cases hp⟩, fun h => absurd h (Nat.not_lt_zero _)⟩) (fun i σ' H' hi ⟨L, y8, y9, y10, y11, es, iv, lq, _⟩ => ?_) (fun σ' H' ⟨L, y8, y9, y10, y11, es, iv, lq, hne⟩ => ?_)
  · subst es
    show tSeq _ _ _ [some (.ref ra), some (.int 1), some (.int 6), some (.int sz), some (.ref f), some (.int (m : Int)), some vr, some (.int way), some (.int (i : Int)), y9, y10, y11] H'
    have b0 : bd 0 = 40 := by decide
    refine q_asg (Z := Z) (R := fun v H => ∃ p, P3 Z v p H ∧ SmP 0 p) iv.1.w2 ?_ fun vp H1 e1 ⟨p, pp, sp⟩ => ?_
    · by_cases hw0 : way = 0
      · refine ev_if (b := true) (et_is (by walk_at "et") (by rw [hw0]; rfl)) (fun _ => ?_) (fun h => by cases h)
        subst hZ
        refine Ev.imp (ev_pick (xs := rs) (by walk_at "ev") (by walk_at "ev") (.inl iv.2.2.1) (by omega) (by omega)) fun x H1 e1 ⟨j, hj⟩ => ?_
        obtain ⟨p, hp, pp⟩ := getPt iv.2.2.2 hj
        exact ⟨p, pp.mono e1, R9_sm p (List.mem_of_getElem? hp)⟩
      · refine ev_if (b := false) (et_is (by walk_at "et") (by simp [hw0])) (fun h => by cases h) (fun _ => ?_)
        subst hZ
        exact Ev.imp (ev_grid (by walk_at "ev") (by walk_at "ev") m0 (by omega)) fun x H1 e1 ⟨p, pp, h1, h2, h3⟩ => ⟨p, pp, ⟨by rw [b0]; omega, by rw [b0]; omega, h3⟩⟩
    have up0 : ∀ (k : Nat), SmP k p := fun k => by
      induction k with
      | zero => exact sp
      | succ k ih => exact ih.up
    have iv1 := ivm iv e1
    show tSeq _ _ _ [some (.ref ra), some (.int 1), some (.int 6), some (.int sz), some (.ref f), some (.int (m : Int)), some vr, some (.int way), some (.int (i : Int)), some vp, y10, y11] H1
    obtain ⟨_, ⟨xs, hx1, hx2⟩, _, _⟩ := id iv1
    have hl : LiR Z xs (.ref f) H1 := ⟨f, rfl, hx1, nf⟩
    have xl : xs.length = L.length := by rw [hx2.length, List.length_map]
    have lle := lq.le
    refine q_whenP (Z := Z) (Pp := decide (V.int way = V.int 1) = true ∧ decide ((1 : Int) < (xs.length : Int)) = true ∧ True) iv1.1.w2 (evp_and (evp_T (et_test (ev_eq (by walk_at "ev") ev_c rfl))) fun _ => evp_and (evp_T (et_test (ev_i0 (ev_lenL (by walk_at "ev") hl) ev_c))) fun _ => evp_test (by subst hZ; exact ev_taken (by walk_at "ev") ev_c (by decide) (hB _ (by decide) (by decide)))) (fun ⟨_, hlen, _⟩ H2 e2 => ?_) (fun H2 e2 => ?_)
    · have hlen := of_decide_eq_true hlen
      have iv2 := ivm iv1 e2
      have hl2 := hl.mono e2
      refine q_par (Z := Z) iv2.1.w2 (RA := fun us _ => ∃ a b, us = [a, b] ∧ (∃ j : Nat, xs[j]? = some a) ∧ ∃ j : Nat, xs[j]? = some b) (ea_consX (R := fun x _ => ∃ j : Nat, xs[j]? = some x) (by subst hZ; exact ev_pick (by walk_at "ev") (by walk_at "ev") (.inl hl2) (by omega) (by omega)) fun v1 H3 e3 h3 => ea_consX (R := fun x _ => ∃ j : Nat, xs[j]? = some x) (by subst hZ; exact ev_pick (by walk_at "ev") (by walk_at "ev") (.inl (hl2.mono e3)) (by omega) (by omega)) fun v2 H4 e4 h4 => ea_nilX fun H5 e5 => ⟨v1, v2, rfl, h3, h4⟩) fun us H3 e3 ⟨va, vb, hus, ⟨ja, hja⟩, jb, hjb⟩ => ⟨_, _, hus, ?_⟩
      show tAsg _ _ _ [some (.ref ra), some (.int 1), some (.int 6), some (.int sz), some (.ref f), some (.int (m : Int)), some vr, some (.int way), some (.int (i : Int)), some vp, some va, some vb] H3
      obtain ⟨a, ha, pa⟩ := getPt hx2 hja
      obtain ⟨b, hb, pb⟩ := getPt hx2 hjb
      have pa := pa.mono (e2.trans e3)
      have pb := pb.mono (e2.trans e3)
      have sa' := lq.sm a (List.mem_of_getElem? ha)
      have sb' := lq.sm b (List.mem_of_getElem? hb)
      have na := sa'.nm (by omega)
      have nb := sb'.nm (by omega)
      obtain ⟨a1, a2, a3, _⟩ := na
      obtain ⟨b1, b2, b3, _⟩ := nb
      have bB2 : B 64 (2 : Int) := hB 2 (by decide) (by decide)
      have c1 : CMulW 2 b.x := B.cmul bB2 b1 (by decide)
      have c2 : CMulW 2 b.y := B.cmul bB2 b2 (by decide)
      refine s_asg (Z := Z) (by walk_at "w") (ev_tup (ea_cons (by walk_at "ev") (ea_cons (by walk_at "ev") (ea_cons ev_c ea_nil))) (by simp)) fun v4 H4 e4 r4 => ?_
      refine fin _ L ⟨2 * b.x - a.x, 2 * b.y - a.y, 1⟩ v4 [some (.ref ra), some (.int 1), some (.int 6), some (.int sz), some (.ref f), some (.int (m : Int)), some vr, some (.int way), some (.int (i : Int)), some v4, some va, some vb] H4 rfl rfl rfl (ivm iv2 (e3.trans e4)) r4 lq ?_ fun H5 L' iv' lq' hne => ⟨L', _, _, _, _, rfl, iv', lq', fun _ => hne⟩
      have e := bd_s L.length
      obtain ⟨x1, x2, x3⟩ := sa'
      obtain ⟨y1, y2, y3⟩ := sb'
      exact ⟨by show _ ≤ 2 * b.x - a.x ∧ 2 * b.x - a.x ≤ _; omega, by show _ ≤ 2 * b.y - a.y ∧ 2 * b.y - a.y ≤ _; omega, rfl⟩
    · exact fin _ L p vp [some (.ref ra), some (.int 1), some (.int 6), some (.int sz), some (.ref f), some (.int (m : Int)), some vr, some (.int way), some (.int (i : Int)), some vp, y10, y11] H2 rfl rfl rfl (ivm iv1 e2) (pp.mono e2) lq (up0 _) fun H5 L' iv' lq' hne => ⟨L', _, _, _, _, rfl, iv', lq', fun _ => hne⟩
  · subst es
    have hL0 : L ≠ [] := hne (by omega)
    refine q_forR1 (Z := Z) (n := (m : Int)) iv.1.w2 (ea_cons (by walk_at "ev") ea_nil) ⟨by omega, by omega⟩ (fun i σ' H' => ∃ (L : List Pt) (y8 y9 y10 y11 : Option V), σ' = [some (.ref ra), some (.int 1), some (.int 6), some (.int sz), some (.ref f), some (.int (m : Int)), some vr, some (.int way), y8, y9, y10, y11] ∧ Iv H' L ∧ LQ L m ∧ L ≠ []) (fun H1 e1 => ⟨L, _, _, _, _, rfl, ivm iv e1, lq, hL0⟩) (fun i σ' H' hi ⟨L, y8, y9, y10, y11, es, iv, lq, hne⟩ => ?_) (fun σ' H' ⟨L, y8, y9, y10, y11, es, iv, lq, hne⟩ => ?_)
    · subst es
      show tSeq _ _ _ [some (.ref ra), some (.int 1), some (.int 6), some (.int sz), some (.ref f), some (.int (m : Int)), some vr, some (.int way), some (.int (i : Int)), y9, y10, y11] H'
      have bi := hB (i : Int) (by omega) (by omega)
      have ci : CMulW (i : Int) (i : Int) := B.cmul bi bi (by decide)
      refine q_asg (Z := Z) iv.1.w2 (ev_tup (ea_cons (by walk_at "ev") (ea_cons (by walk_at "ev") (ea_cons ev_c ea_nil))) (by simp)) fun v4 H4 e4 r4 => ?_
      refine fin _ L ⟨(i : Int), (i : Int) * (i : Int) - 40, 1⟩ v4 [some (.ref ra), some (.int 1), some (.int 6), some (.int sz), some (.ref f), some (.int (m : Int)), some vr, some (.int way), some (.int (i : Int)), some v4, y10, y11] H4 rfl rfl rfl (ivm iv e4) r4 lq ?_ fun H5 L' iv' lq' hne => ⟨L', _, _, _, _, rfl, iv', lq', hne⟩
      have e := bd_pos (L.length + 1)
      have hi5 : i ≤ 5 := by omega
      have hsq : (i : Int) * (i : Int) ≤ 25 ∧ 0 ≤ (i : Int) * (i : Int) := by
        have := Int.mul_le_mul (show (i : Int) ≤ 5 by omega) (show (i : Int) ≤ 5 by omega) (by omega) (by decide)
        have := Int.mul_nonneg (show 0 ≤ (i : Int) by omega) (show 0 ≤ (i : Int) by omega)
        omega
      exact ⟨by show _ ≤ (i : Int) ∧ (i : Int) ≤ _; omega, by show _ ≤ (i : Int) * (i : Int) - 40 ∧ (i : Int) * (i : Int) - 40 ≤ _; omega, rfl⟩
    · subst es
      obtain ⟨h1, ⟨xs, h2, h3⟩, h4, h5⟩ := id iv
      have hl : LiR Z xs (.ref f) H' := ⟨f, rfl, h2, nf⟩
      have lle := lq.le
      refine s_ret (Z := Z) h1.w2 (ev_tupF (ds := L.map ptD) (ev_da (by walk_at "ev") (hl.da h3))) fun v4 H4 e4 r4 => hq _ _ (eB.trans (h1.trans e4)) ⟨L, ⟨lq.nd, ?_, by omega, fun p hp => (lq.sm p hp).six (by omega)⟩, r4⟩
      rcases Nat.eq_zero_or_pos L.length with z | z
      · exact absurd (List.eq_nil_of_length_eq_zero z) hne
      · exact z
end
end Hk
/-! ## F22 -/
namespace Hk
open PySem PySem.Spec PyProof.Rows L2
local macro_rules | `(tactic| walk_at "bd") => `(tactic| first
  | assumption
  | exact (show B 64 _ from by unfold B; decide)
  | (refine' B.mul ?b1 ?b2; (case b1 => walk_at "bd"); (case b2 => walk_at "bd"))
  | (refine' B.sub ?b1 ?b2; (case b1 => walk_at "bd"); (case b2 => walk_at "bd"))
  | (refine' B.add ?b1 ?b2; (case b1 => walk_at "bd"); (case b2 => walk_at "bd"))
  | (refine' B.neg ?b1; (case b1 => walk_at "bd")))
local macro_rules | `(tactic| walk_at "da") => `(tactic| first
  | assumption
  | exact Da.int _
  | exact Da.non
  | exact Da.bl _
  | exact Da.str _
  | ((with_reducible refine' P3.mono (by assumption) ?d1); (case d1 => walk_at "da"))
  | ((with_reducible refine' Ra.mono (by assumption) ?d1); (case d1 => walk_at "da"))
  | ((with_reducible refine' TuR.mono (by assumption) ?d1); (case d1 => walk_at "da"))
  | ((with_reducible refine' LiR.mono (by assumption) ?d1); (case d1 => walk_at "da"))
  | ((with_reducible refine' Da.mono (by assumption) ?d1); (case d1 => walk_at "da")))
local macro_rules | `(tactic| walk_at "xt") => `(tactic| first
  | assumption
  | (refine' Xt.trans ?x1 (by assumption); (case x1 => walk_at "xt")))
local macro_rules | `(tactic| walk_at "w") => `(tactic| first
  | assumption
  | exact Xt.w2 (by assumption)
  | exact Xt.w1 (by assumption))
local macro_rules | `(tactic| walk_at "side") => `(tactic| first
  | assumption
  | (refine' B.cmul ?b1 ?b2 ?b3; (case b1 => walk_at "bd"); (case b2 => walk_at "bd"); (case b3 => first | decide | omega))
  | (refine' B.cdiv ?b1 ?b2 ?b3; (case b1 => assumption); (case b2 => walk_at "bd"); (case b3 => first | decide | omega)))
local macro_rules | `(tactic| walk_at "ea") => `(tactic| first
  | with_reducible exact ea_nil
  | ((with_reducible refine' ea_cons ?p1 ?p2); (case p1 => walk_at "ev"); (case p2 => walk_at "ea")))
local macro_rules | `(tactic| walk_at "et") => `(tactic| first
  | ((with_reducible refine' et_and ?p1 ?p2); (case p1 => walk_at "et"); (case p2 => intro _; walk_at "et"))
  | ((with_reducible refine' et_or ?p1 ?p2); (case p1 => walk_at "et"); (case p2 => intro _; walk_at "et"))
  | ((with_reducible refine' et_not ?p1); (case p1 => walk_at "et"))
  | ((with_reducible refine' et_test ?p1); (case p1 => walk_at "ev"))
  | ((with_reducible refine' et_B ?p1); (case p1 => walk_at "ev")))
local macro_rules | `(tactic| walk_at "ev") => `(tactic| first
  | with_reducible exact ev_c
  | ((with_reducible refine' ev_var ?v1); (case v1 => exact rfl))
  | ((with_reducible refine' ev_px ?p1 ?p2 ?p3); (case p1 => walk_at "ev"); (case p2 => walk_at "da"); (case p3 => with_reducible exact ev_c))
  | ((with_reducible refine' ev_py ?p1 ?p2 ?p3); (case p1 => walk_at "ev"); (case p2 => walk_at "da"); (case p3 => with_reducible exact ev_c))
  | ((with_reducible refine' ev_pw ?p1 ?p2 ?p3); (case p1 => walk_at "ev"); (case p2 => walk_at "da"); (case p3 => with_reducible exact ev_c))
  | ((with_reducible refine' ev_ixT ?p1 ?p2 ?p3 ?p4); (case p1 => walk_at "ev"); (case p2 => walk_at "da"); (case p3 => walk_at "ev"); (case p4 => first | exact rfl | assumption))
  | ((with_reducible refine' ev_ixL ?p1 ?p2 ?p3 ?p4); (case p1 => walk_at "ev"); (case p2 => walk_at "da"); (case p3 => walk_at "ev"); (case p4 => first | exact rfl | assumption))
  | ((with_reducible refine' ev_i0 ?p1 ?p2); (case p1 => walk_at "ev"); (case p2 => walk_at "ev"))
  | ((with_reducible refine' ev_iC ?p1 ?p2 ?p3); (case p1 => walk_at "ev"); (case p2 => walk_at "ev"); (case p3 => walk_at "side"))
  | ((with_reducible refine' ev_neg ?p1); (case p1 => walk_at "ev"))
  | ((with_reducible refine' ev_eq ?p1 ?p2 ?p3); (case p1 => walk_at "ev"); (case p2 => walk_at "ev"); (case p3 => exact rfl))
  | ((with_reducible refine' ev_ne ?p1 ?p2 ?p3); (case p1 => walk_at "ev"); (case p2 => walk_at "ev"); (case p3 => exact rfl))
  | ((with_reducible refine' ev_andV ?p1 ?p2); (case p1 => walk_at "ev"); (case p2 => intro _; walk_at "ev"))
  | ((with_reducible refine' ev_orV ?p1 ?p2); (case p1 => walk_at "ev"); (case p2 => intro _; walk_at "ev"))
  | ((with_reducible refine' ev_notV ?p1); (case p1 => walk_at "ev"))
  | ((with_reducible refine' ev_subB ?p1 ?p2); (case p1 => walk_at "ev"); (case p2 => walk_at "ev"))
  | ((with_reducible refine' ev_chI ?p1 ?p2 ?p3); (case p1 => walk_at "ev"); (case p2 => walk_at "ev"); (case p3 => walk_at "ev"))
  | ((with_reducible refine' ev_isInt ?p1 ?p2); (case p1 => walk_at "ev"); (case p2 => walk_at "da"))
  | ((with_reducible refine' ev_isBool ?p1 ?p2); (case p1 => walk_at "ev"); (case p2 => walk_at "da"))
  | ((with_reducible refine' ev_isStr ?p1 ?p2); (case p1 => walk_at "ev"); (case p2 => walk_at "da"))
  | ((with_reducible refine' ev_isTup ?p1 ?p2); (case p1 => walk_at "ev"); (case p2 => walk_at "da"))
  | ((with_reducible refine' ev_isLst ?p1 ?p2); (case p1 => walk_at "ev"); (case p2 => walk_at "da"))
  | ((with_reducible refine' ev_isTL ?p1 ?p2); (case p1 => walk_at "ev"); (case p2 => walk_at "da"))
  | ((with_reducible refine' ev_lenT ?p1 ?p2); (case p1 => walk_at "ev"); (case p2 => walk_at "da"))
  | ((with_reducible refine' ev_lenL ?p1 ?p2); (case p1 => walk_at "ev"); (case p2 => walk_at "da"))
  | ((with_reducible refine' ev_abs ?p1); (case p1 => walk_at "ev"))
  | ((with_reducible refine' ev_min2 ?p1 ?p2); (case p1 => walk_at "ev"); (case p2 => walk_at "ev"))
  | ((with_reducible refine' ev_int1 ?p1); (case p1 => walk_at "ev"))
  | ((with_reducible refine' ev_isN ?p1); (case p1 => walk_at "ev"))
  | ((with_reducible refine' ev_notN ?p1); (case p1 => walk_at "ev"))
  | ((with_reducible refine' ev_sign ?p1); (case p1 => walk_at "ev"))
  | ((with_reducible refine' ev_gcd ?p1 ?p2); (case p1 => walk_at "ev"); (case p2 => walk_at "ev"))
  | ((with_reducible refine' ev_is_in ?p1 ?p2 ?p3 ?p4); (case p1 => walk_at "ev"); (case p2 => walk_at "da"); (case p3 => walk_at "ev"); (case p4 => walk_at "ev"))
  | ((with_reducible refine' ev_doubled ?p1 ?p2 ?p3 ?p4 ?p5 ?p6 ?p7 ?p8 ?p9); (case p1 => walk_at "ev"); (case p2 => walk_at "ev"); (case p3 => walk_at "ev"); (case p4 => walk_at "da"); (case p5 => walk_at "da"); (case p6 => walk_at "da"); (case p7 => assumption); (case p8 => assumption); (case p9 => assumption))
  | ((with_reducible refine' ev_order_of ?p1 ?p2 ?p3 ?p4 ?p5 ?p6); (case p1 => walk_at "ev"); (case p2 => walk_at "ev"); (case p3 => walk_at "da"); (case p4 => walk_at "da"); (case p5 => assumption); (case p6 => assumption))
  | ((with_reducible refine' ev_turn_of ?p1 ?p2 ?p3 ?p4 ?p5 ?p6 ?p7 ?p8 ?p9); (case p1 => walk_at "ev"); (case p2 => walk_at "ev"); (case p3 => walk_at "ev"); (case p4 => walk_at "da"); (case p5 => walk_at "da"); (case p6 => walk_at "da"); (case p7 => assumption); (case p8 => assumption); (case p9 => assumption))
  | ((with_reducible refine' ev_is_between ?p1 ?p2 ?p3 ?p4 ?p5 ?p6 ?p7 ?p8 ?p9); (case p1 => walk_at "ev"); (case p2 => walk_at "ev"); (case p3 => walk_at "ev"); (case p4 => walk_at "da"); (case p5 => walk_at "da"); (case p6 => walk_at "da"); (case p7 => assumption); (case p8 => assumption); (case p9 => assumption)))
section
variable {P : Program} {w : World} {K : PySem.W.Frag} {mg : Str → Option Value} {base : Heap}
def PtR (Z : Wd) : Rl := fun v H => ∃ p, P3 Z v p H ∧ SOk p
def G_l_point (T : Tb K) : Gv := fun Z vs H R => ∃ ra sa ns m, Z = Zr T ra sa ns ∧ vs = [.ref ra, .int m] ∧ 0 ≤ m ∧ m ≤ 6 ∧ R = PtR Z
theorem ok_l_point (T : Tx K mg) : FnOk P w K mg base CX0 3 T.f_l_point T.d_l_point ["_law_row", "_law_size"] (spOf (G_l_point (tbx T))) := by
  refine T.F_l_point.ok sc_l_point (fun vs H Q E h => ?_) (fun cdv A outer s H vs Q E hr h => ?_)
  · obtain ⟨Z, R, _, ⟨ra, sa, ns, m, _, rfl, _⟩, _⟩ := h
    rfl
  obtain ⟨_, R, hw, ⟨ra, sa, ns, m, rfl, rfl, m0, m1, rfl⟩, hq⟩ := h
  refine ⟨_, (pss_cons (ps_set (i := 2) sc_l_point.nd rfl (Or.inl rfl) (pe_call (ok_l_pick T) (hr.mono (by decide)) (by rfl) T.g_l_pick T.F_l_pick.kp T.b_l_pick .nil pass0 (pa_cons (pv 0) (pa_cons (pe_lst (pa_cons pe_int (pa_cons pe_int (pa_cons pe_int (pa_cons pe_int (pa_cons pe_int (pa_cons (pe_op op_add pe_int (pe_call (ok_l_taken T) (hr.mono (by decide)) (by rfl) T.g_l_taken T.F_l_taken.kp T.b_l_taken .nil pass0 (pa_cons (pv 0) (pa_cons pe_int pa_nil)))) pa_nil))))))) pa_nil))))
  (pss_one (ps_ret (pe_call (ok_l_lowest T) (hr.mono (by decide)) (by rfl) T.g_l_lowest T.F_l_lowest.kp T.b_l_lowest .nil pass0 (pa_cons (pe_call (ok_l_signed T) (hr.mono (by decide)) (by rfl) T.g_l_signed T.F_l_signed.kp T.b_l_signed .nil pass0 (pa_cons (pv 0) (pa_cons (pe_op op_mulW (pv 1) (pv 2)) pa_nil))) (pa_cons (pe_call (ok_l_signed T) (hr.mono (by decide)) (by rfl) T.g_l_signed T.F_l_signed.kp T.b_l_signed .nil pass0 (pa_cons (pv 0) (pa_cons (pe_op op_mulW (pv 1) (pv 2)) pa_nil))) (pa_cons (pv 2) pa_nil))))))), ?_⟩
  rw [show L2.start nm_l_point [(.ref ra), (.int m)] = [some (.ref ra), some (.int m), none] from rfl]
  have hB : ∀ n : Int, 0 ≤ n → n ≤ 1000 → B 64 n := fun n h1 h2 => by unfold B; omega
  refine q_asg (Z := Zr (tbx T) ra sa ns) (R := fun x _ => ∃ k : Int, x = .int k ∧ 1 ≤ k ∧ k ≤ 10) (by walk_at "w") (ev_pickX (by walk_at "ev") (EvN.ev (en_lst (RA := fun us _ => ∃ k : Int, us = [.int 1, .int 1, .int 1, .int 2, .int 3, .int k] ∧ 1 ≤ k ∧ k ≤ 9) ?_ (fun us H1 ⟨_, h, _⟩ => by rw [h]; simp)) fun q H1 e1 _ ⟨us, H2, ⟨k, hu, k1, k9⟩, _, _, hq1, hq2⟩ => ⟨us, ⟨q, rfl, hq1, hq2⟩, by rw [hu]; simp, by rw [hu]; simp, fun i x hx H3 e3 => ?_⟩)) fun v1 H1 e1 ⟨k, hk, k1, k10⟩ => ?_
  · refine ea_consX (R := IsV (.int 1)) ev_c fun v1 H1 e1 h1 => ea_consX (R := IsV (.int 1)) ev_c fun v2 H2 e2 h2 => ea_consX (R := IsV (.int 1)) ev_c fun v3 H3 e3 h3 => ea_consX (R := IsV (.int 2)) ev_c fun v4 H4 e4 h4 => ea_consX (R := IsV (.int 3)) ev_c fun v5 H5 e5 h5 => ea_consX (R := fun x _ => ∃ k : Int, x = .int k ∧ 1 ≤ k ∧ k ≤ 9) ?_ fun v6 H6 e6 ⟨k, h6, k1, k9⟩ => ea_nilX fun H7 e7 => ⟨k, by rw [h1, h2, h3, h4, h5, h6], k1, k9⟩
    refine ev_opX (Ra := IsV (.int 1)) (Rb := fun _ => DrR 9) ev_c (fun x H2 _ _ => ev_taken (by walk_at "ev") ev_c (by decide) (hB _ (by decide) (by decide))) fun x y H2 H3 e2 e3 hx ⟨k, hk, k0, k1⟩ Q q => ?_
    subst hx
    subst hk
    exact ⟨1, k, rfl, rfl, q _ H3 (.refl e3.w2) ⟨1 + k, rfl, by omega, by omega⟩⟩
  · subst hu
    match i, hx with
    | 0, hx => cases hx; exact ⟨1, rfl, by omega, by omega⟩
    | 1, hx => cases hx; exact ⟨1, rfl, by omega, by omega⟩
    | 2, hx => cases hx; exact ⟨1, rfl, by omega, by omega⟩
    | 3, hx => cases hx; exact ⟨2, rfl, by omega, by omega⟩
    | 4, hx => cases hx; exact ⟨3, rfl, by omega, by omega⟩
    | 5, hx => cases hx; exact ⟨k, rfl, by omega, by omega⟩
    | _ + 6, hx => simp at hx
  · subst hk
    have mk0 : 0 ≤ m * k := Int.mul_nonneg m0 (by omega)
    have mk1 : m * k ≤ 60 := by
      have := Int.mul_le_mul m1 k10 (by omega) (by decide)
      omega
    have cm : CMulW m k := B.cmul (hB m m0 (by omega)) (hB k (by omega) (by omega)) (by decide)
    refine s_ret (Z := Zr (tbx T) ra sa ns) (R := PtR (Zr (tbx T) ra sa ns)) (by walk_at "w") (ev_callW (G := G_l_lowest) (RA := fun us _ => ∃ x y : Int, us = [.int x, .int y, .int k] ∧ (-(m * k) ≤ x ∧ x ≤ m * k) ∧ (-(m * k) ≤ y ∧ y ≤ m * k)) (ea_consX (ev_signed (m := m * k) (by walk_at "ev") (by walk_at "ev") mk0 (by omega)) fun v1 H2 e2 ⟨x, hx, x1, x2⟩ => ea_consX (ev_signed (m := m * k) (by walk_at "ev") (by walk_at "ev") mk0 (by omega)) fun v2 H3 e3 ⟨y, hy, y1, y2⟩ => ea_consX (R := IsV (.int k)) (by walk_at "ev") fun v3 H4 e4 h4 => ea_nilX fun H5 e5 => ⟨x, y, by rw [hx, hy, h4], ⟨x1, x2⟩, y1, y2⟩) fun us H2 e2 ⟨x, y, hu, hx, hy⟩ => ?_) fun v2 H2 e2 r2 => hq _ _ (by walk_at "xt") r2
    exact ⟨_, ⟨x, y, k, hu, by omega, hB _ (by omega) (by omega), rfl⟩, fun v H3 e3 h3 => ⟨_, h3, lowP_sok (by omega) (by omega) (by omega) (by omega)⟩⟩
def mvP (f bl x y : Int) (p : Pt) : Pt := lowP (p.x * f + x * p.w) (p.y * f + y * p.w) (p.w * bl)
structure SQ (L : List Pt) : Prop where
  nd : L.Nodup
  l1 : 1 ≤ L.length
  l6 : L.length ≤ 6
  ok : ∀ p ∈ L, SOk p
theorem SQ.pts {L : List Pt} (h : SQ L) : Pts L := ⟨fun p hp => (h.ok p hp).1, h.nd, h.l1, by have := h.l6; omega⟩
theorem six_ok {p : Pt} (h : SmP 6 p) : SOk p := by
  obtain ⟨h1, h2, h3⟩ := h
  have e : bd 6 = 29160 := by decide
  rw [e] at h1 h2
  refine ⟨⟨by unfold LG; omega, by unfold LG; omega, by unfold LG; omega, ?_⟩, by omega, by omega, by omega, by omega, by omega⟩
  rw [h3]
  unfold gcdI
  simp
theorem mvP_inj {f bl x y : Int} {p q : Pt} (hf : 0 < f) (hb : 0 < bl) (hp : SmP 6 p) (hq : SmP 6 q) (h : mvP f bl x y p = mvP f bl x y q) : p = q := by
  obtain ⟨_, _, pw⟩ := hp
  obtain ⟨_, _, qw⟩ := hq
  unfold mvP at h
  rw [pw, qw, Int.one_mul, Int.mul_one, Int.mul_one] at h
  obtain ⟨g1, ex1, ey1, ew1, _⟩ := lowP_props (x := p.x * f + x) (y := p.y * f + y) hb
  obtain ⟨g2, ex2, ey2, ew2, _⟩ := lowP_props (x := q.x * f + x) (y := q.y * f + y) hb
  rw [h] at ex1 ey1 ew1
  have hw : gcdI (gcdI (p.x * f + x) (p.y * f + y)) bl = gcdI (gcdI (q.x * f + x) (q.y * f + y)) bl := by
    have e : (lowP (q.x * f + x) (q.y * f + y) bl).w * (gcdI (gcdI (p.x * f + x) (p.y * f + y)) bl - gcdI (gcdI (q.x * f + x) (q.y * f + y)) bl) = 0 := by
      rw [Int.mul_sub, ew1, ew2]
      omega
    have wp := pos_of ew2 g2 hb
    rcases Int.mul_eq_zero.mp e with h | h <;> omega
  rw [hw] at ex1 ey1
  have hx : (p.x - q.x) * f = 0 := by rw [Int.sub_mul]; omega
  have hy : (p.y - q.y) * f = 0 := by rw [Int.sub_mul]; omega
  have hx := mul0 hx (by omega)
  have hy := mul0 hy (by omega)
  cases p
  cases q
  simp only [Pt.mk.injEq] at *
  omega
theorem mvP_ok {f bl x y : Int} {p : Pt} (hf : 0 < f) (hf2 : f ≤ 100003) (hb : 0 < bl) (hb2 : bl ≤ 7) (hx : -1000000009 ≤ x ∧ x ≤ 1000000009) (hy : -1000000009 ≤ y ∧ y ≤ 1000000009) (hp : SmP 6 p) : SOk (mvP f bl x y p) := by
  obtain ⟨h1, h2, h3⟩ := hp
  have e : bd 6 = 29160 := by decide
  rw [e] at h1 h2
  have k : ∀ a : Int, -29160 ≤ a ∧ a ≤ 29160 → -3000000000 ≤ a * f ∧ a * f ≤ 3000000000 := fun a ha => by
    have := Int.mul_le_mul_of_nonneg_right ha.2 (show 0 ≤ f by omega)
    have := Int.mul_le_mul_of_nonneg_right ha.1 (show 0 ≤ f by omega)
    omega
  have kx := k p.x h1
  have ky := k p.y h2
  unfold mvP
  rw [h3]
  refine lowP_sok (by omega) (by omega) (by omega) (by omega)
def MvR (Z : Wd) (L : List Pt) : Rl := fun v H => ∃ L', SQ L' ∧ FzD Z (L'.map ptD) v H
def G_l_moved (T : Tb K) : Gv := fun Z vs H R => ∃ ra sa ns vl L, Z = Zr T ra sa ns ∧ vs = [.ref ra, vl] ∧ FzD Z (L.map ptD) vl H ∧ PQ L ∧ R = MvR Z L
def OneOf (l : List Int) : Rl := fun x _ => ∃ k, k ∈ l ∧ x = .int k
section
variable {TT : Tb K} {ra sa : Addr} {ns : Scr K sa} {σ : L2.St} {H : Hp} {ta tb tc : TE} {E : XK}
theorem ev_pickI {ta' : TA} (l : List Int) (h1 : Ev (Zr TT ra sa ns) ta σ H (IsV (.ref ra))) (h2 : EvA (Zr TT ra sa ns) ta' σ H (fun us _ => us = l.map V.int)) (l1 : 1 ≤ l.length) (l2 : l.length ≤ 1000) : Ev (Zr TT ra sa ns) (tCall (spOf (G_l_pick TT)) [] E (tCons ta (tCons (tLst ta') tNil))) σ H (OneOf l) :=
  ev_pickX h1 (Ev.imp (ev_lst h2 (by rw [List.length_map]; omega)) fun v H1 e1 hv => ⟨l.map V.int, hv, by rw [List.length_map]; omega, by rw [List.length_map]; omega, fun i x hx H2 e2 => by
    rw [List.getElem?_map] at hx
    cases e : l[i]? with
    | none => rw [e] at hx; cases hx
    | some k =>
      rw [e] at hx
      cases hx
      exact ⟨k, List.mem_of_getElem? e, rfl⟩⟩)
end
theorem ok_l_moved (T : Tx K mg) : FnOk P w K mg base CX0 3 T.f_l_moved T.d_l_moved ["_law_row", "_law_points_here"] (spOf (G_l_moved (tbx T))) := by
  refine T.F_l_moved.ok sc_l_moved (fun vs H Q E h => ?_) (fun cdv A outer s H vs Q E hr h => ?_)
  · obtain ⟨Z, R, _, ⟨ra, sa, ns, vl, L, _, rfl, _⟩, _⟩ := h
    rfl
  obtain ⟨_, R, hw, ⟨ra, sa, ns, vl, L, rfl, rfl, hd, pq, rfl⟩, hq⟩ := h
  refine ⟨_, (pss_cons (ps_set (i := 2) sc_l_moved.nd rfl (Or.inl rfl) (pe_call (ok_l_taken T) (hr.mono (by decide)) (by rfl) T.g_l_taken T.F_l_taken.kp T.b_l_taken .nil pass0 (pa_cons (pv 0) (pa_cons pe_int pa_nil))))
  (pss_cons (ps_if (pt_cmpR op_gt (pv 2) pe_int (nomark _))
  (pss_one (ps_ret (pv 1)))
  pss_nil)
  (pss_cons (ps_asg (pe_tup (pa_cons (pe_ifExp (pt_cmpR op_eq (pv 2) pe_int (nomark _)) (pe_call (ok_l_pick T) (hr.mono (by decide)) (by rfl) T.g_l_pick T.F_l_pick.kp T.b_l_pick .nil pass0 (pa_cons (pv 0) (pa_cons (pe_lst (pa_cons pe_int (pa_cons pe_int (pa_cons pe_int pa_nil)))) pa_nil))) pe_int) (pa_cons (pe_call (ok_l_pick T) (hr.mono (by decide)) (by rfl) T.g_l_pick T.F_l_pick.kp T.b_l_pick .nil pass0 (pa_cons (pv 0) (pa_cons (pe_lst (pa_cons pe_int (pa_cons pe_int (pa_cons pe_int pa_nil)))) pa_nil))) pa_nil))) (pg_tup rfl (pgs_cons (pg_name (i := 3) sc_l_moved.nd rfl (Or.inr rfl)) (pgs_cons (pg_name (i := 4) sc_l_moved.nd rfl (Or.inr rfl)) pgs_nil))))
  (pss_cons (ps_asg (pe_tup (pa_cons (pe_call (ok_l_pick T) (hr.mono (by decide)) (by rfl) T.g_l_pick T.F_l_pick.kp T.b_l_pick .nil pass0 (pa_cons (pv 0) (pa_cons (pe_lst (pa_cons pe_int (pa_cons (pe_un un_neg pe_int) (pa_cons (pe_op op_add (pe_op op_pow pe_int pe_int) pe_int) pa_nil)))) pa_nil))) (pa_cons (pe_call (ok_l_pick T) (hr.mono (by decide)) (by rfl) T.g_l_pick T.F_l_pick.kp T.b_l_pick .nil pass0 (pa_cons (pv 0) (pa_cons (pe_lst (pa_cons pe_int (pa_cons pe_int (pa_cons (pe_op op_sub (pe_un un_neg (pe_op op_pow pe_int pe_int)) pe_int) pa_nil)))) pa_nil))) pa_nil))) (pg_tup rfl (pgs_cons (pg_name (i := 5) sc_l_moved.nd rfl (Or.inr rfl)) (pgs_cons (pg_name (i := 6) sc_l_moved.nd rfl (Or.inr rfl)) pgs_nil))))
  (pss_one (ps_ret (pe_callTy call_tupF (by rfl) T.z_tuple (by decide +kernel) (pa_cons (pe_lc (own := [("_law_p", 7)]) (g := gName 7) rfl sc_l_moved.nd (pi_tup (pv 1)) (blkOk_by (own := [("_law_p", 7)]) (N := nm_l_moved) (sc := defScope s_l_moved) (by decide +kernel)) (fun _ _ _ _ _ => pg_name (i := 7) sc_l_moved.nd rfl (Or.inl rfl)) (fun _ _ _ _ _ => pts_nil) (fun _ _ _ _ _ => (pe_call (ok_l_lowest T) (hr.mono (by decide)) (by rfl) T.g_l_lowest T.F_l_lowest.kp T.b_l_lowest .nil pass0 (pa_cons (pe_op op_add (pe_op op_mulW (pe_ix (ix_tupK (K := K) rfl) (pv 7) pe_int (fun _ _ => rfl)) (pv 4)) (pe_op op_mulW (pv 5) (pe_ix (ix_tupK (K := K) rfl) (pv 7) pe_int (fun _ _ => rfl)))) (pa_cons (pe_op op_add (pe_op op_mulW (pe_ix (ix_tupK (K := K) rfl) (pv 7) pe_int (fun _ _ => rfl)) (pv 4)) (pe_op op_mulW (pv 6) (pe_ix (ix_tupK (K := K) rfl) (pv 7) pe_int (fun _ _ => rfl)))) (pa_cons (pe_op op_mulW (pe_ix (ix_tupK (K := K) rfl) (pv 7) pe_int (fun _ _ => rfl)) (pv 3)) pa_nil)))))) pa_nil)))))))), ?_⟩
  rw [show L2.start nm_l_moved [(.ref ra), vl] = [some (.ref ra), some vl, none, none, none, none, none, none] from rfl]
  have hfz := hd
  have hd := hd.da
  have hB : ∀ n : Int, -1000000000000 ≤ n → n ≤ 1000000000000 → B 64 n := fun n h1 h2 => by unfold B; omega
  obtain ⟨xs, hx, hxs⟩ := hd.tupE
  have hlen : xs.length = L.length := by rw [hxs.length, List.length_map]
  have l6 := pq.l6
  refine q_asg (Z := Zr (tbx T) ra sa ns) (by walk_at "w") (ev_taken (n := 6) (by walk_at "ev") ev_c (by decide) (hB _ (by decide) (by decide))) fun v1 H1 e1 ⟨way, hway, _, _⟩ => ?_
  subst hway
  refine q_when (Z := Zr (tbx T) ra sa ns) (by walk_at "w") (by walk_at "et") (fun _ H2 e2 => ?_) (fun _ H2 e2 => ?_)
  · refine s_ret (Z := Zr (tbx T) ra sa ns) (R := IsV vl) (by walk_at "w") (by walk_at "ev") fun v3 H3 e3 r3 => ?_
    subst r3
    have e13 := (e1.trans e2).trans e3
    exact hq _ _ e13 ⟨L, ⟨pq.nd, pq.l1, pq.l6, fun p hp => six_ok (pq.sm p hp)⟩, hfz.mono e13⟩
  · have cp : CPow 10 9 := by unfold CPow; decide
    refine q_asgG (Z := Zr (tbx T) ra sa ns) (R := fun v H => ∃ a b, a ∈ [2, 3, 7, 1] ∧ b ∈ [1, 2, 100003] ∧ TuR (Zr (tbx T) ra sa ns) [.int a, .int b] v H) (by walk_at "w") (EvN.ev (en_tup (RA := fun us _ => ∃ a b : Int, us = [.int a, .int b] ∧ a ∈ [2, 3, 7, 1] ∧ b ∈ [1, 2, 100003]) (ea_consX (R := OneOf [2, 3, 7, 1]) ?_ fun v1 H3 e3 ⟨a, ha, hav⟩ => ea_consX (ev_pickI [1, 2, 100003] (by walk_at "ev") (ea_cons ev_c (ea_cons ev_c (ea_cons ev_c ea_nil))) (by decide) (by decide)) fun v2 H4 e4 ⟨b, hb, hbv⟩ => ea_nilX fun H5 e5 => ⟨a, b, by rw [hav, hbv], ha, hb⟩) (fun us H1 ⟨_, _, h, _⟩ => by rw [h]; simp)) fun q H3 e3 _ ⟨us, H4, ⟨a, b, hu, ha, hb⟩, _, _, hq1, hq2⟩ => ⟨a, b, ha, hb, q, rfl, ⟨.inl (by rw [hq1, hu])⟩, hq2⟩) fun v3 H3 e3 ⟨bl, f, hbl, hf, ht⟩ => g_tup2 ht ?_
    · by_cases h0 : way = 0
      · refine ev_if (b := true) (et_is (by walk_at "et") (by rw [h0]; rfl)) (fun _ => Ev.imp (ev_pickI [2, 3, 7] (by walk_at "ev") (ea_cons ev_c (ea_cons ev_c (ea_cons ev_c ea_nil))) (by decide) (by decide)) fun v H3 e3 ⟨k, hk, hv⟩ => ⟨k, by simp at hk ⊢; omega, hv⟩) (fun h => by cases h)
      · exact ev_if (b := false) (et_is (by walk_at "et") (by simp [h0])) (fun h => by cases h) (fun _ => Ev.imp (R := IsV (.int 1)) ev_c fun v H3 e3 hv => ⟨1, by simp, hv⟩)
    show tSeq _ _ _ [some (.ref ra), some vl, some (.int way), some (.int bl), some (.int f), none, none, none] H3
    refine q_asgG (Z := Zr (tbx T) ra sa ns) (R := fun v H => ∃ a b, a ∈ [0, -3, 1000000007] ∧ b ∈ [0, 1, -1000000009] ∧ TuR (Zr (tbx T) ra sa ns) [.int a, .int b] v H) (by walk_at "w") (EvN.ev (en_tup (RA := fun us _ => ∃ a b : Int, us = [.int a, .int b] ∧ a ∈ [0, -3, 1000000007] ∧ b ∈ [0, 1, -1000000009]) (ea_consX (ev_pickI [0, -3, 1000000007] (by walk_at "ev") (ea_cons ev_c (ea_cons (ev_neg ev_c) (ea_cons (ev_is (ev_i0 (ev_iC ev_c ev_c cp) ev_c) rfl) ea_nil))) (by decide) (by decide)) fun v1 H4 e4 ⟨a, ha, hav⟩ => ea_consX (ev_pickI [0, 1, -1000000009] (by walk_at "ev") (ea_cons ev_c (ea_cons ev_c (ea_cons (ev_is (ev_i0 (ev_neg (ev_iC ev_c ev_c cp)) ev_c) rfl) ea_nil))) (by decide) (by decide)) fun v2 H5 e5 ⟨b, hb, hbv⟩ => ea_nilX fun H6 e6 => ⟨a, b, by rw [hav, hbv], ha, hb⟩) (fun us H1 ⟨_, _, h, _⟩ => by rw [h]; simp)) fun q H4 e4 _ ⟨us, H5, ⟨a, b, hu, ha, hb⟩, _, _, hq1, hq2⟩ => ⟨a, b, ha, hb, q, rfl, ⟨.inl (by rw [hq1, hu])⟩, hq2⟩) fun v4 H4 e4 ⟨x, y, hx', hy', ht'⟩ => g_tup2 ht' ?_
    show tRet _ _ [some (.ref ra), some vl, some (.int way), some (.int bl), some (.int f), some (.int x), some (.int y), none] H4
    have e14 := (e1.trans e2).trans (e3.trans e4)
    have fb : 0 < f ∧ f ≤ 100003 := by simp at hf; omega
    have bb : 0 < bl ∧ bl ≤ 7 := by simp at hbl; omega
    have xb : -1000000009 ≤ x ∧ x ≤ 1000000009 := by simp at hx'; omega
    have yb : -1000000009 ≤ y ∧ y ≤ 1000000009 := by simp at hy'; omega
    have e6 : bd 6 = 29160 := by decide
    have hcc := en_lcTP (Z := Zr (tbx T) ra sa ns) (K := K) (σ := [some (.ref ra), some vl, some (.int way), some (.int bl), some (.int f), some (.int x), some (.int y), none]) (H := H4) (vs := [7]) (j := 7) (t := tYes) (xs := xs) (tl := tVar 1)
      (te := tCall (spOf G_l_lowest) [] E0 (tCons (tOp (rI0 fun i j => .int (i + j)) (tOp (rI CMulW fun i j => .int (i * j)) (tOp (rIxT K) (tVar 7) (tC (.int 0))) (tVar 4)) (tOp (rI CMulW fun i j => .int (i * j)) (tVar 5) (tOp (rIxT K) (tVar 7) (tC (.int 2))))) (tCons (tOp (rI0 fun i j => .int (i + j)) (tOp (rI CMulW fun i j => .int (i * j)) (tOp (rIxT K) (tVar 7) (tC (.int 1))) (tVar 4)) (tOp (rI CMulW fun i j => .int (i * j)) (tVar 6) (tOp (rIxT K) (tVar 7) (tC (.int 2))))) (tCons (tOp (rI CMulW fun i j => .int (i * j)) (tOp (rIxT K) (tVar 7) (tC (.int 2))) (tVar 3)) tNil))))
      L (fun _ => true) (fun p => ptD (mvP f bl x y p)) (by walk_at "ev") (hx.mono e14) hlen (by omega) (fun x => rfl) (fun p _ => ptD_noL _) (fun i x a H2 e2 _ _ => et_yes) (fun i z p H5 e5 hi hp _ => ?_)
    · rw [filter_yes] at hcc
      refine s_ret (Z := Zr (tbx T) ra sa ns) (by walk_at "w") (ev_tupF hcc.da) fun v6 H6 e6' r6 => hq _ _ (e14.trans e6') ⟨L.map (mvP f bl x y), ⟨?_, by rw [List.length_map]; exact pq.l1, by rw [List.length_map]; exact l6, fun q hq' => ?_⟩, by rw [List.map_map]; exact r6⟩
      · refine (List.pairwise_map.mpr ?_)
        exact pq.nd.imp_of_mem fun {a b} ha hb hab h => hab (mvP_inj fb.1 bb.1 (pq.sm a ha) (pq.sm b hb) h)
      · obtain ⟨p, hp, rfl⟩ := List.mem_map.mp hq'
        exact mvP_ok fb.1 fb.2 bb.1 bb.2 xb yb (pq.sm p hp)
    · obtain ⟨p', hp', pp⟩ := getPt hxs hi
      rw [hp] at hp'
      cases hp'
      have pp := pp.mono (e14.trans e5)
      have sp := pq.sm p (List.mem_of_getElem? hp)
      obtain ⟨p1, p2, p3, _⟩ := sp.nm (by decide)
      have c1 : CMulW p.x f := B.cmul p1 (hB f (by omega) (by omega)) (by decide)
      have c2 : CMulW p.y f := B.cmul p2 (hB f (by omega) (by omega)) (by decide)
      have c3 : CMulW x p.w := B.cmul (hB x (by omega) (by omega)) p3 (by decide)
      have c4 : CMulW y p.w := B.cmul (hB y (by omega) (by omega)) p3 (by decide)
      have c5 : CMulW p.w bl := B.cmul p3 (hB bl (by omega) (by omega)) (by decide)
      have hpw := sp.w
      refine Ev.imp (R := fun v H2 => P3 _ v (mvP f bl x y p) H2) (ev_l_lowest (ev_i0 (by walk_at "ev") (by walk_at "ev")) (ev_i0 (by walk_at "ev") (by walk_at "ev")) (by walk_at "ev") (by rw [hpw]; omega) (hB _ (by rw [hpw]; omega) (by rw [hpw]; omega))) fun v H6 e6 h6 => h6.da
section
variable {TT : Tb K} {ra sa : Addr} {ns : Scr K sa} {σ : L2.St} {H : Hp} {ta tb tc : TE} {E : XK}
theorem ev_point {m : Int} (h1 : Ev (Zr TT ra sa ns) ta σ H (IsV (.ref ra))) (h2 : Ev (Zr TT ra sa ns) tb σ H (IsV (.int m))) (m0 : 0 ≤ m) (m1 : m ≤ 6) : Ev (Zr TT ra sa ns) (tCall (spOf (G_l_point TT)) [] E (tCons ta (tCons tb tNil))) σ H (PtR (Zr TT ra sa ns)) :=
  ev_call (ea_cons h1 (ea_cons h2 ea_nil)) fun H1 e => ⟨ra, sa, ns, m, rfl, rfl, m0, m1, rfl⟩
end
end
end Hk
/-! ## G8 -/
/-! the brute force hull -/
namespace Hk
def condK (a b c p : Pt) : Bool := decide (det a b c ≠ 0) && (decide (∀ y ∈ [sgn (det a b p), sgn (det b c p), sgn (det c a p)], 0 ≤ y) || decide (∀ y ∈ [sgn (det a b p), sgn (det b c p), sgn (det c a p)], y ≤ 0))
def kQ (o : List Pt) (p : Pt) (i j n : Nat) : Bool := (List.range n).any fun k => condK (gt o i) (gt o j) (gt o k) p
def jQ (o : List Pt) (p : Pt) (i n : Nat) : Bool := (List.range n).any fun j => lbt (gt o i) (gt o j) p || kQ o p i j j
def iQ (o : List Pt) (p : Pt) (n : Nat) : Bool := (List.range n).any fun i => jQ o p i i
theorem any_succ (f : Nat → Bool) (n : Nat) : (List.range (n + 1)).any f = ((List.range n).any f || f n) := by
  rw [List.range_succ, List.any_append]
  simp
theorem sg0 (n : Int) : (0 ≤ sgn n ↔ 0 ≤ n) ∧ (sgn n ≤ 0 ↔ n ≤ 0) := by
  have h1 := sgn_neg n
  have h2 := sgn_pos n
  omega
theorem condK_iff {a b c p : Pt} : condK a b c p = true ↔ det a b c ≠ 0 ∧ ((0 ≤ det a b p ∧ 0 ≤ det b c p ∧ 0 ≤ det c a p) ∨ (det a b p ≤ 0 ∧ det b c p ≤ 0 ∧ det c a p ≤ 0)) := by
  unfold condK
  have s1 := sg0 (det a b p)
  have s2 := sg0 (det b c p)
  have s3 := sg0 (det c a p)
  simp only [Bool.and_eq_true, Bool.or_eq_true, decide_eq_true_iff, List.mem_cons, List.not_mem_nil, or_false, forall_eq_or_imp, forall_eq]
  omega
theorem condK_sw1 {a b c p : Pt} (h : condK a b c p = true) : condK b a c p = true := by
  rw [condK_iff] at *
  have e1 := det_sw a b c
  have e2 := det_sw a b p
  have e3 := det_sw c a p
  have e4 := det_sw b c p
  omega
theorem condK_sw2 {a b c p : Pt} (h : condK a b c p = true) : condK a c b p = true := by
  rw [condK_iff] at *
  have e1 := det_sw2 a b c
  have e2 := det_sw a b p
  have e3 := det_sw c a p
  have e4 := det_sw b c p
  omega
theorem lbt_iff {a b p : Pt} (oa : Ok a) (ob : Ok b) (op : Ok p) (ha : a ≠ p) (hb : b ≠ p) (hab : a ≠ b) : lbt a b p = true ↔ inSeg a b p := by
  unfold lbt inSeg
  have l1 := ord_lt a p
  have l2 := ord_lt p b
  have l3 := ord_lt b p
  have l4 := ord_lt p a
  have l5 := ord_lt a b
  have l6 := ord_gt a b
  have z1 := ord_eq oa op
  have z2 := ord_eq op ob
  have z3 := ord_eq ob op
  have z4 := ord_eq op oa
  have n1 : ordP a p ≠ 0 := fun z => ha (z1.mp z)
  have n2 : ordP p b ≠ 0 := fun z => hb (z2.mp z).symm
  have n3 : ordP b p ≠ 0 := fun z => hb (z3.mp z)
  have n4 : ordP p a ≠ 0 := fun z => ha (z4.mp z).symm
  by_cases hd : det a b p ≠ 0
  · rw [if_pos (.inl hd)]
    constructor
    · intro h
      exact absurd (of_decide_eq_true h).symm ha
    · intro h
      exact absurd h.1 hd
  · rw [if_neg (fun h => h.elim hd hab)]
    have hd : det a b p = 0 := by omega
    by_cases ho : ordP a b < 0
    · rw [if_pos ho, Bool.and_eq_true, decide_eq_true_iff, decide_eq_true_iff]
      constructor
      · rintro ⟨h1, h2⟩
        exact ⟨hd, .inl ⟨l1.mp (by omega), l2.mp (by omega)⟩⟩
      · rintro ⟨_, ⟨h1, h2⟩ | ⟨h1, h2⟩⟩
        · have := l1.mpr h1
          have := l2.mpr h2
          omega
        · exact absurd (plt_trans (okw ob) (okw op) (okw oa) h1 h2) (plt_asym (l5.mp ho))
    · rw [if_neg ho, Bool.and_eq_true, decide_eq_true_iff, decide_eq_true_iff]
      have pba : plt b a := by
        rcases plt_tri oa ob hab with h | h
        · exact absurd (l5.mpr h) ho
        · exact h
      constructor
      · rintro ⟨h1, h2⟩
        exact ⟨hd, .inr ⟨l3.mp (by omega), l4.mp (by omega)⟩⟩
      · rintro ⟨_, ⟨h1, h2⟩ | ⟨h1, h2⟩⟩
        · exact absurd (plt_trans (okw oa) (okw op) (okw ob) h1 h2) (plt_asym pba)
        · have := l3.mpr h1
          have := l4.mpr h2
          omega
/-- a linear form, 0 between and not below 0 at the ends, is 0 at the ends -/
theorem seg_zero {m n a b p : Pt} (wa : 0 < a.w) (wb : 0 < b.w) (wp : 0 < p.w) (h : inSeg a b p) (h1 : 0 ≤ det m n a) (h2 : 0 ≤ det m n b) (h0 : det m n p = 0) : det m n a = 0 := by
  obtain ⟨sx, sy⟩ := seg2 wa wb wp h
  by_cases hx : lx a b = 0
  · obtain ⟨_, _, n0, k1, k2⟩ := sy hx
    have e := cram m n a b dY p
    rw [h.1, det_dY, det_dY, show det a p dY = ly a p from det_dY a p, h0, Int.zero_mul] at e
    have e2 : 0 = det m n a * (ly p b * ly a b) + det m n b * (ly a p * ly a b) := by
      have := congrArg (· * ly a b) e
      simp only [Int.zero_mul] at this
      grind
    have m1 := Int.mul_nonneg h1 (Int.le_of_lt k2)
    have m2 := Int.mul_nonneg h2 (Int.le_of_lt k1)
    exact mul0 (b := ly p b * ly a b) (by omega) (by omega)
  · obtain ⟨k1, k2⟩ := sx hx
    have e := cram m n a b dX p
    rw [h.1, det_dX, det_dX, show det a p dX = lx a p from det_dX a p, h0, Int.zero_mul] at e
    have e2 : 0 = det m n a * (lx p b * lx a b) + det m n b * (lx a p * lx a b) := by
      have := congrArg (· * lx a b) e
      simp only [Int.zero_mul] at this
      grind
    have m1 := Int.mul_nonneg h1 (Int.le_of_lt k2)
    have m2 := Int.mul_nonneg h2 (Int.le_of_lt k1)
    exact mul0 (b := lx p b * lx a b) (by omega) (by omega)
section
variable {C L : List Pt}
/-- the two lines at a corner -/
theorem corner {i : Nat} (hok : ∀ q ∈ L, Ok q) (h : IsHull C L) (h3 : 3 ≤ C.length) (hi : i < C.length) :
    ∃ u v, (∀ q ∈ L, 0 ≤ det u (gt C i) q) ∧ (∀ q ∈ L, 0 ≤ det (gt C i) v q) ∧ 0 < det u (gt C i) v := by
  have ed := h.edge (by omega)
  by_cases h0 : i = 0
  · subst h0
    refine ⟨gt C (C.length - 1), gt C 1, fun q hq => ?_, fun q hq => ?_, ?_⟩
    · have := ed (C.length - 1) (by omega) q hq
      rw [show C.length - 1 + 1 = C.length by omega, Nat.mod_self] at this
      exact this
    · have := ed 0 (by omega) q hq
      rw [Nat.mod_eq_of_lt (by omega)] at this
      exact this
    · have := h.conv 0 1 (C.length - 1) (by omega) (by omega) (by omega)
      have := det_cyc2 (gt C 0) (gt C 1) (gt C (C.length - 1))
      omega
  · by_cases hl : i + 1 < C.length
    · refine ⟨gt C (i - 1), gt C (i + 1), fun q hq => ?_, fun q hq => ?_, ?_⟩
      · have := ed (i - 1) (by omega) q hq
        rw [show i - 1 + 1 = i by omega, Nat.mod_eq_of_lt hi] at this
        exact this
      · have := ed i hi q hq
        rw [Nat.mod_eq_of_lt hl] at this
        exact this
      · exact h.conv (i - 1) i (i + 1) (by omega) (by omega) hl
    · refine ⟨gt C (i - 1), gt C 0, fun q hq => ?_, fun q hq => ?_, ?_⟩
      · have := ed (i - 1) (by omega) q hq
        rw [show i - 1 + 1 = i by omega, Nat.mod_eq_of_lt hi] at this
        exact this
      · have := ed i hi q hq
        rw [show i + 1 = C.length by omega, Nat.mod_self] at this
        exact this
      · have := h.conv 0 (i - 1) i (by omega) (by omega) hi
        have := det_cyc (gt C 0) (gt C (i - 1)) (gt C i)
        omega
theorem corner_eq {u v c q : Pt} (oc : Ok c) (oq : Ok q) (h : 0 < det u c v) (h1 : det u c q = 0) (h2 : det c v q = 0) : q = c := by
  refine vert (a := u) (b := v) (c := c) oc oq ?_ ?_ ?_
  · have := det_sw2 u c v; omega
  · have := det_cyc2 c v q
    have := det_sw2 q v c
    omega
  · have := det_sw2 u c q; omega
theorem no_seg {i : Nat} (hok : ∀ q ∈ L, Ok q) (h : IsHull C L) (hi : i < C.length) {a b : Pt} (ha : a ∈ L) (hb : b ∈ L) (hne : a ≠ gt C i) (hnb : b ≠ gt C i) : ¬ inSeg a b (gt C i) := fun hs => by
  have oi := h.okC hok hi
  have oa := hok a ha
  have ob := hok b hb
  by_cases m1 : C.length = 1
  · have := h.one m1 a ha
    have : i = 0 := by omega
    subst this
    exact hne (h.one m1 a ha)
  · by_cases m2 : C.length = 2
    · have : i = 0 ∨ i = 1 := by omega
      rcases this with rfl | rfl
      · have pa := (h.least a ha).resolve_left hne
        have pb := (h.least b hb).resolve_left hnb
        rcases hs.2 with ⟨h1, _⟩ | ⟨h1, _⟩
        · exact plt_asym pa h1
        · exact plt_asym pb h1
      · have pa := (h.two m2 a ha).resolve_left hne
        have pb := (h.two m2 b hb).resolve_left hnb
        rcases hs.2 with ⟨_, h1⟩ | ⟨_, h1⟩
        · exact plt_asym pb h1
        · exact plt_asym pa h1
    · have hne0 := h.ne
      obtain ⟨u, v, h1, h2, h3⟩ := corner hok h (by omega) hi
      have k1 := seg_zero (okw oa) (okw ob) (okw oi) hs (h1 a ha) (h1 b hb) (det_abb _ _)
      have k2 := seg_zero (okw oa) (okw ob) (okw oi) hs (h2 a ha) (h2 b hb) (det_aba _ _)
      exact hne (corner_eq oi oa h3 k1 k2)
theorem no_tri {i : Nat} (hok : ∀ q ∈ L, Ok q) (h : IsHull C L) (hi : i < C.length) {a b c : Pt} (ha : a ∈ L) (hb : b ∈ L) (hc : c ∈ L) (hna : a ≠ gt C i) (hnb : b ≠ gt C i) (hnc : c ≠ gt C i) : condK a b c (gt C i) ≠ true := fun hk => by
  rw [condK_iff] at hk
  obtain ⟨hD, hs⟩ := hk
  have oi := h.okC hok hi
  have hne0 := h.ne
  by_cases m1 : C.length = 1
  · have : i = 0 := by omega
    subst this
    exact hna (h.one m1 a ha)
  · by_cases m2 : C.length = 2
    · -- all on one line
      have on : ∀ q ∈ L, det (gt C 0) (gt C 1) q = 0 := fun q hq => by
        rcases two_seg hok h m2 hq with e | e | ⟨e, _⟩
        · rw [e, det_aba]
        · rw [e, det_abb]
        · exact e
      have o0 := h.okC hok (show 0 < C.length by omega)
      have o1 := h.okC hok (show 1 < C.length by omega)
      have n01 := h.nd 0 1 (by omega) (by omega)
      have ea := on a ha
      have eb := on b hb
      have ec := on c hc
      -- det a b c times a nonzero number is 0
      rcases lxy_ne o0 o1 n01 with hx | hy
      · refine hD (mul0 (b := lx (gt C 0) (gt C 1)) ?_ hx)
        have e := cram a b (gt C 0) (gt C 1) dX c
        rw [show det (gt C 0) (gt C 1) dX = lx (gt C 0) (gt C 1) from det_dX _ _, ec, Int.mul_zero, Int.add_zero] at e
        have e1 := cram (gt C 0) c (gt C 0) (gt C 1) dX a
        have e2 := cram (gt C 0) c (gt C 0) (gt C 1) dX b
        generalize gt C 0 = c0 at *
        generalize gt C 1 = c1 at *
        unfold det lx dX at *
        grind
      · refine hD (mul0 (b := ly (gt C 0) (gt C 1)) ?_ hy)
        generalize gt C 0 = c0 at *
        generalize gt C 1 = c1 at *
        unfold det ly at *
        grind
    · obtain ⟨u, v, h1, h2, h3⟩ := corner hok h (by omega) hi
      generalize hp : gt C i = p at *
      have c1 := det_cyc p b c
      have c2 := det_cyc a p c
      have c2' := det_cyc p c a
      have zer : ∀ m n, (∀ q ∈ L, 0 ≤ det m n q) → det m n p = 0 → det m n a * det p b c = 0 ∧ det m n b * det a p c = 0 ∧ det m n c * det a b p = 0 := fun m n hf h0 => by
        have e := cram m n a b c p
        rw [h0, Int.zero_mul] at e
        have fa := hf a ha
        have fb := hf b hb
        have fc := hf c hc
        rcases hs with ⟨s1, s2, s3⟩ | ⟨s1, s2, s3⟩
        · have m1 := Int.mul_nonneg fa (show 0 ≤ det p b c by omega)
          have m2 := Int.mul_nonneg fb (show 0 ≤ det a p c by omega)
          have m3 := Int.mul_nonneg fc s1
          omega
        · have m1 := Int.mul_nonneg fa (show 0 ≤ - det p b c by omega)
          have m2 := Int.mul_nonneg fb (show 0 ≤ - det a p c by omega)
          have m3 := Int.mul_nonneg fc (show 0 ≤ - det a b p by omega)
          rw [Int.mul_neg] at m1 m2 m3
          omega
      obtain ⟨x1, x2, x3⟩ := zer u p h1 (det_abb _ _)
      obtain ⟨y1, y2, y3⟩ := zer p v h2 (det_aba _ _)
      have ew := cram_w a b c p
      have pw := okw oi
      have one : det p b c ≠ 0 ∨ det a p c ≠ 0 ∨ det a b p ≠ 0 := by
        by_cases g1 : det p b c = 0
        · by_cases g2 : det a p c = 0
          · by_cases g3 : det a b p = 0
            · exfalso
              rw [g1, g2, g3] at ew
              simp only [Int.mul_zero, Int.add_zero] at ew
              exact hD (mul0 (b := p.w) (by rw [Int.mul_comm]; exact ew) (by omega))
            · exact .inr (.inr g3)
          · exact .inr (.inl g2)
        · exact .inl g1
      rcases one with g | g | g
      · exact hna (corner_eq oi (hok a ha) h3 (mul0 x1 g) (mul0 y1 g))
      · exact hnb (corner_eq oi (hok b hb) h3 (mul0 x2 g) (mul0 y2 g))
      · exact hnc (corner_eq oi (hok c hc) h3 (mul0 x3 g) (mul0 y3 g))
theorem iQ_pair {o : List Pt} {p : Pt} {i j : Nat} (hi : i < o.length) (hj : j < o.length) (hne : i ≠ j) (h : lbt (gt o i) (gt o j) p = true) (h' : lbt (gt o j) (gt o i) p = true) : iQ o p o.length = true := by
  unfold iQ
  rw [List.any_eq_true]
  rcases Nat.lt_or_gt_of_ne hne with g | g
  · refine ⟨j, List.mem_range.mpr hj, ?_⟩
    unfold jQ
    rw [List.any_eq_true]
    exact ⟨i, List.mem_range.mpr g, by rw [h']; rfl⟩
  · refine ⟨i, List.mem_range.mpr hi, ?_⟩
    unfold jQ
    rw [List.any_eq_true]
    exact ⟨j, List.mem_range.mpr g, by rw [h]; rfl⟩
theorem iQ_tri0 {o : List Pt} {p : Pt} {i j k : Nat} (hi : i < o.length) (hij : j < i) (hjk : k < j) (h : condK (gt o i) (gt o j) (gt o k) p = true) : iQ o p o.length = true := by
  unfold iQ
  rw [List.any_eq_true]
  refine ⟨i, List.mem_range.mpr hi, ?_⟩
  unfold jQ
  rw [List.any_eq_true]
  refine ⟨j, List.mem_range.mpr hij, ?_⟩
  rw [Bool.or_eq_true]
  right
  unfold kQ
  rw [List.any_eq_true]
  exact ⟨k, List.mem_range.mpr hjk, h⟩
theorem iQ_tri {o : List Pt} {p : Pt} {i j k : Nat} (hi : i < o.length) (hj : j < o.length) (hk : k < o.length) (hij : i ≠ j) (hik : i ≠ k) (hjk : j ≠ k) (h : condK (gt o i) (gt o j) (gt o k) p = true) : iQ o p o.length = true := by
  rcases Nat.lt_or_gt_of_ne hij with a | a
  · rcases Nat.lt_or_gt_of_ne hik with b | b
    · rcases Nat.lt_or_gt_of_ne hjk with c | c
      · -- i < j < k
        exact iQ_tri0 hk c a (condK_sw1 (condK_sw2 (condK_sw1 h)))
      · -- i < k < j
        exact iQ_tri0 hj c b (condK_sw2 (condK_sw1 h))
    · -- k < i < j
      exact iQ_tri0 hj a b (condK_sw1 h)
  · rcases Nat.lt_or_gt_of_ne hik with b | b
    · -- j < i < k
      exact iQ_tri0 hk b a (condK_sw1 (condK_sw2 h))
    · rcases Nat.lt_or_gt_of_ne hjk with c | c
      · -- j < k < i
        exact iQ_tri0 hi b c (condK_sw2 h)
      · exact iQ_tri0 hi a c h
theorem ins_iff (hok : ∀ q ∈ L, Ok q) (h : IsHull C L) {p : Pt} (hp : p ∈ L) : iQ (L.filter fun q => decide (q ≠ p)) p (L.filter fun q => decide (q ≠ p)).length = true ↔ p ∉ C := by
  have om : ∀ q, q ∈ (L.filter fun q => decide (q ≠ p)) ↔ q ∈ L ∧ q ≠ p := fun q => by simp
  generalize ho : (L.filter fun q => decide (q ≠ p)) = o at *
  have op := hok p hp
  constructor
  · intro hI hpC
    obtain ⟨i0, hi0, rfl⟩ := gt_of_mem hpC
    unfold iQ at hI
    rw [List.any_eq_true] at hI
    obtain ⟨i, hi, hj⟩ := hI
    have hi := List.mem_range.mp hi
    obtain ⟨ai, an⟩ := (om _).mp (gt_mem hi)
    unfold jQ at hj
    rw [List.any_eq_true] at hj
    obtain ⟨j, hj, hk⟩ := hj
    have hj := List.mem_range.mp hj
    obtain ⟨bi, bn⟩ := (om _).mp (gt_mem (show j < o.length by omega))
    rcases Bool.or_eq_true _ _ |>.mp hk with hk | hk
    · by_cases hab : gt o i = gt o j
      · unfold lbt at hk
        rw [if_pos (.inr hab)] at hk
        exact an (of_decide_eq_true hk).symm
      · exact no_seg hok h hi0 ai bi an bn ((lbt_iff (hok _ ai) (hok _ bi) op an bn hab).mp hk)
    · unfold kQ at hk
      rw [List.any_eq_true] at hk
      obtain ⟨k, hk, hc⟩ := hk
      have hk := List.mem_range.mp hk
      obtain ⟨ci, cn⟩ := (om _).mp (gt_mem (show k < o.length by omega))
      exact no_tri hok h hi0 ai bi ci an bn cn hc
  · intro hpC
    have hf := reg_fan hok op h (mem_reg h hok hp)
    have idx : ∀ {i}, i < C.length → gt C i ≠ p → ∃ x, x < o.length ∧ gt o x = gt C i := fun {i} hi hn => gt_of_mem ((om _).mpr ⟨h.sub _ (gt_mem hi), hn⟩)
    have seg : ∀ {i j}, i < j → j < C.length → inSeg (gt C i) (gt C j) p → iQ o p o.length = true := fun {i j} hij hj hs => by
      obtain ⟨n1, n2⟩ := hs.ne
      obtain ⟨x, hx, ex⟩ := idx (show i < C.length by omega) (Ne.symm n1)
      obtain ⟨y, hy, ey⟩ := idx hj (Ne.symm n2)
      have nd := h.nd i j hij hj
      have oi := h.okC hok (show i < C.length by omega)
      have oj := h.okC hok hj
      refine iQ_pair hx hy (fun e => nd (by rw [← ex, ← ey, e])) ?_ ?_
      · rw [ex, ey]
        exact (lbt_iff oi oj op (Ne.symm n1) (Ne.symm n2) nd).mpr hs
      · rw [ex, ey]
        exact (lbt_iff oj oi op (Ne.symm n2) (Ne.symm n1) (Ne.symm nd)).mpr hs.sw
    cases hf with
    | v i hi e => exact absurd (e ▸ gt_mem hi) hpC
    | s0 j h1 hj e => exact seg (by omega) hj e
    | s k h1 hk e => exact seg (by omega) hk e
    | t k h1 hk e =>
      have n0 : gt C 0 ≠ p := fun z => hpC (z ▸ gt_mem (by omega))
      have n1 : gt C k ≠ p := fun z => hpC (z ▸ gt_mem (by omega))
      have n2 : gt C (k + 1) ≠ p := fun z => hpC (z ▸ gt_mem hk)
      obtain ⟨x, hx, ex⟩ := idx (show 0 < C.length by omega) n0
      obtain ⟨y, hy, ey⟩ := idx (show k < C.length by omega) n1
      obtain ⟨z, hz, ez⟩ := idx hk n2
      have d1 := h.nd 0 k (by omega) (by omega)
      have d2 := h.nd 0 (k + 1) (by omega) hk
      have d3 := h.nd k (k + 1) (by omega) hk
      refine iQ_tri hx hy hz (fun e => d1 (by rw [← ex, ← ey, e])) (fun e => d2 (by rw [← ex, ← ez, e])) (fun e => d3 (by rw [← ey, ← ez, e])) ?_
      rw [ex, ey, ez, condK_iff]
      have hD := h.conv 0 k (k + 1) (by omega) (by omega) hk
      have p1 := pos2 e.1 hD
      have p2 := pos2 e.2.1 hD
      have p3 := pos2 e.2.2 hD
      have c1 := det_cyc p (gt C k) (gt C (k + 1))
      have c2 := det_cyc (gt C 0) p (gt C (k + 1))
      have c3 := det_cyc p (gt C (k + 1)) (gt C 0)
      exact ⟨by omega, .inl ⟨by omega, by omega, by omega⟩⟩
end
end Hk
/-! ## F23 -/
namespace Hk
open PySem PySem.Spec PyProof.Rows L2
local macro_rules | `(tactic| walk_at "bd") => `(tactic| first
  | assumption
  | exact (show B 64 _ from by unfold B; decide)
  | (refine' B.mul ?b1 ?b2; (case b1 => walk_at "bd"); (case b2 => walk_at "bd"))
  | (refine' B.sub ?b1 ?b2; (case b1 => walk_at "bd"); (case b2 => walk_at "bd"))
  | (refine' B.add ?b1 ?b2; (case b1 => walk_at "bd"); (case b2 => walk_at "bd"))
  | (refine' B.neg ?b1; (case b1 => walk_at "bd")))
local macro_rules | `(tactic| walk_at "da") => `(tactic| first
  | assumption
  | exact Da.int _
  | exact Da.non
  | exact Da.bl _
  | exact Da.str _
  | ((with_reducible refine' P3.mono (by assumption) ?d1); (case d1 => walk_at "da"))
  | ((with_reducible refine' Ra.mono (by assumption) ?d1); (case d1 => walk_at "da"))
  | ((with_reducible refine' TuR.mono (by assumption) ?d1); (case d1 => walk_at "da"))
  | ((with_reducible refine' LiR.mono (by assumption) ?d1); (case d1 => walk_at "da"))
  | ((with_reducible refine' Da.mono (by assumption) ?d1); (case d1 => walk_at "da")))
local macro_rules | `(tactic| walk_at "xt") => `(tactic| first
  | assumption
  | (refine' Xt.trans ?x1 (by assumption); (case x1 => walk_at "xt")))
local macro_rules | `(tactic| walk_at "w") => `(tactic| first
  | assumption
  | exact Xt.w2 (by assumption)
  | exact Xt.w1 (by assumption))
local macro_rules | `(tactic| walk_at "side") => `(tactic| first
  | assumption
  | (refine' B.cmul ?b1 ?b2 ?b3; (case b1 => walk_at "bd"); (case b2 => walk_at "bd"); (case b3 => first | decide | omega))
  | (refine' B.cdiv ?b1 ?b2 ?b3; (case b1 => assumption); (case b2 => walk_at "bd"); (case b3 => first | decide | omega)))
local macro_rules | `(tactic| walk_at "ea") => `(tactic| first
  | with_reducible exact ea_nil
  | ((with_reducible refine' ea_cons ?p1 ?p2); (case p1 => walk_at "ev"); (case p2 => walk_at "ea")))
local macro_rules | `(tactic| walk_at "et") => `(tactic| first
  | ((with_reducible refine' et_and ?p1 ?p2); (case p1 => walk_at "et"); (case p2 => intro _; walk_at "et"))
  | ((with_reducible refine' et_or ?p1 ?p2); (case p1 => walk_at "et"); (case p2 => intro _; walk_at "et"))
  | ((with_reducible refine' et_not ?p1); (case p1 => walk_at "et"))
  | ((with_reducible refine' et_test ?p1); (case p1 => walk_at "ev"))
  | ((with_reducible refine' et_B ?p1); (case p1 => walk_at "ev")))
local macro_rules | `(tactic| walk_at "ev") => `(tactic| first
  | with_reducible exact ev_c
  | ((with_reducible refine' ev_var ?v1); (case v1 => exact rfl))
  | ((with_reducible refine' ev_px ?p1 ?p2 ?p3); (case p1 => walk_at "ev"); (case p2 => walk_at "da"); (case p3 => with_reducible exact ev_c))
  | ((with_reducible refine' ev_py ?p1 ?p2 ?p3); (case p1 => walk_at "ev"); (case p2 => walk_at "da"); (case p3 => with_reducible exact ev_c))
  | ((with_reducible refine' ev_pw ?p1 ?p2 ?p3); (case p1 => walk_at "ev"); (case p2 => walk_at "da"); (case p3 => with_reducible exact ev_c))
  | ((with_reducible refine' ev_ixT ?p1 ?p2 ?p3 ?p4); (case p1 => walk_at "ev"); (case p2 => walk_at "da"); (case p3 => walk_at "ev"); (case p4 => first | exact rfl | assumption))
  | ((with_reducible refine' ev_ixL ?p1 ?p2 ?p3 ?p4); (case p1 => walk_at "ev"); (case p2 => walk_at "da"); (case p3 => walk_at "ev"); (case p4 => first | exact rfl | assumption))
  | ((with_reducible refine' ev_i0 ?p1 ?p2); (case p1 => walk_at "ev"); (case p2 => walk_at "ev"))
  | ((with_reducible refine' ev_iC ?p1 ?p2 ?p3); (case p1 => walk_at "ev"); (case p2 => walk_at "ev"); (case p3 => walk_at "side"))
  | ((with_reducible refine' ev_neg ?p1); (case p1 => walk_at "ev"))
  | ((with_reducible refine' ev_eq ?p1 ?p2 ?p3); (case p1 => walk_at "ev"); (case p2 => walk_at "ev"); (case p3 => exact rfl))
  | ((with_reducible refine' ev_ne ?p1 ?p2 ?p3); (case p1 => walk_at "ev"); (case p2 => walk_at "ev"); (case p3 => exact rfl))
  | ((with_reducible refine' ev_andV ?p1 ?p2); (case p1 => walk_at "ev"); (case p2 => intro _; walk_at "ev"))
  | ((with_reducible refine' ev_orV ?p1 ?p2); (case p1 => walk_at "ev"); (case p2 => intro _; walk_at "ev"))
  | ((with_reducible refine' ev_notV ?p1); (case p1 => walk_at "ev"))
  | ((with_reducible refine' ev_subB ?p1 ?p2); (case p1 => walk_at "ev"); (case p2 => walk_at "ev"))
  | ((with_reducible refine' ev_chI ?p1 ?p2 ?p3); (case p1 => walk_at "ev"); (case p2 => walk_at "ev"); (case p3 => walk_at "ev"))
  | ((with_reducible refine' ev_isInt ?p1 ?p2); (case p1 => walk_at "ev"); (case p2 => walk_at "da"))
  | ((with_reducible refine' ev_isBool ?p1 ?p2); (case p1 => walk_at "ev"); (case p2 => walk_at "da"))
  | ((with_reducible refine' ev_isStr ?p1 ?p2); (case p1 => walk_at "ev"); (case p2 => walk_at "da"))
  | ((with_reducible refine' ev_isTup ?p1 ?p2); (case p1 => walk_at "ev"); (case p2 => walk_at "da"))
  | ((with_reducible refine' ev_isLst ?p1 ?p2); (case p1 => walk_at "ev"); (case p2 => walk_at "da"))
  | ((with_reducible refine' ev_isTL ?p1 ?p2); (case p1 => walk_at "ev"); (case p2 => walk_at "da"))
  | ((with_reducible refine' ev_lenT ?p1 ?p2); (case p1 => walk_at "ev"); (case p2 => walk_at "da"))
  | ((with_reducible refine' ev_lenL ?p1 ?p2); (case p1 => walk_at "ev"); (case p2 => walk_at "da"))
  | ((with_reducible refine' ev_abs ?p1); (case p1 => walk_at "ev"))
  | ((with_reducible refine' ev_min2 ?p1 ?p2); (case p1 => walk_at "ev"); (case p2 => walk_at "ev"))
  | ((with_reducible refine' ev_int1 ?p1); (case p1 => walk_at "ev"))
  | ((with_reducible refine' ev_isN ?p1); (case p1 => walk_at "ev"))
  | ((with_reducible refine' ev_notN ?p1); (case p1 => walk_at "ev"))
  | ((with_reducible refine' ev_sign ?p1); (case p1 => walk_at "ev"))
  | ((with_reducible refine' ev_gcd ?p1 ?p2); (case p1 => walk_at "ev"); (case p2 => walk_at "ev"))
  | ((with_reducible refine' ev_is_in ?p1 ?p2 ?p3 ?p4); (case p1 => walk_at "ev"); (case p2 => walk_at "da"); (case p3 => walk_at "ev"); (case p4 => walk_at "ev"))
  | ((with_reducible refine' ev_doubled ?p1 ?p2 ?p3 ?p4 ?p5 ?p6 ?p7 ?p8 ?p9); (case p1 => walk_at "ev"); (case p2 => walk_at "ev"); (case p3 => walk_at "ev"); (case p4 => walk_at "da"); (case p5 => walk_at "da"); (case p6 => walk_at "da"); (case p7 => assumption); (case p8 => assumption); (case p9 => assumption))
  | ((with_reducible refine' ev_order_of ?p1 ?p2 ?p3 ?p4 ?p5 ?p6); (case p1 => walk_at "ev"); (case p2 => walk_at "ev"); (case p3 => walk_at "da"); (case p4 => walk_at "da"); (case p5 => assumption); (case p6 => assumption))
  | ((with_reducible refine' ev_turn_of ?p1 ?p2 ?p3 ?p4 ?p5 ?p6 ?p7 ?p8 ?p9); (case p1 => walk_at "ev"); (case p2 => walk_at "ev"); (case p3 => walk_at "ev"); (case p4 => walk_at "da"); (case p5 => walk_at "da"); (case p6 => walk_at "da"); (case p7 => assumption); (case p8 => assumption); (case p9 => assumption))
  | ((with_reducible refine' ev_is_between ?p1 ?p2 ?p3 ?p4 ?p5 ?p6 ?p7 ?p8 ?p9); (case p1 => walk_at "ev"); (case p2 => walk_at "ev"); (case p3 => walk_at "ev"); (case p4 => walk_at "da"); (case p5 => walk_at "da"); (case p6 => walk_at "da"); (case p7 => assumption); (case p8 => assumption); (case p9 => assumption)))
section
variable {P : Program} {w : World} {K : PySem.W.Frag} {mg : Str → Option Value} {base : Heap}
section
variable {Z : Wd} {σ : L2.St} {H : Hp} {te : TE}
theorem ev_minge {ns : List Int} (h : Ev Z te σ H (DaR Z (.list (ns.map .int)))) (hn : 0 < ns.length) : Ev Z (tOp (rI0 fun i j => .bl (decide (j ≤ i))) (tCB (rMin K) (tCons te tNil)) (tC (.int 0))) σ H (IsV (.bl (decide (∀ y ∈ ns, 0 ≤ y)))) :=
  ev_opX (Ra := fun v _ => ∃ m, v = .int m ∧ m ∈ ns ∧ ∀ y ∈ ns, m ≤ y) (Rb := fun _ => IsV (.int 0)) (ev_min h hn fun m H1 h1 h2 => ⟨m, rfl, h1, h2⟩) (fun _ _ _ _ => ev_c) fun x y H1 H2 e1 e2 ⟨m, hx, hm, hle⟩ hy Q q => by
    subst hx
    subst hy
    refine ⟨m, 0, rfl, rfl, q _ H2 (.refl e2.w2) ?_⟩
    show V.bl (decide (0 ≤ m)) = _
    congr 1
    exact decide_eq_decide.mpr ⟨fun h y hy => by have := hle y hy; omega, fun h => h m hm⟩
theorem ev_maxle {ns : List Int} (h : Ev Z te σ H (DaR Z (.list (ns.map .int)))) (hn : 0 < ns.length) : Ev Z (tOp (rI0 fun i j => .bl (decide (i ≤ j))) (tCB (rMax K) (tCons te tNil)) (tC (.int 0))) σ H (IsV (.bl (decide (∀ y ∈ ns, y ≤ 0)))) :=
  ev_opX (Ra := fun v _ => ∃ m, v = .int m ∧ m ∈ ns ∧ ∀ y ∈ ns, y ≤ m) (Rb := fun _ => IsV (.int 0)) (ev_max h hn fun m H1 h1 h2 => ⟨m, rfl, h1, h2⟩) (fun _ _ _ _ => ev_c) fun x y H1 H2 e1 e2 ⟨m, hx, hm, hle⟩ hy Q q => by
    subst hx
    subst hy
    refine ⟨m, 0, rfl, rfl, q _ H2 (.refl e2.w2) ?_⟩
    show V.bl (decide (m ≤ 0)) = _
    congr 1
    exact decide_eq_decide.mpr ⟨fun h y hy => by have := hle y hy; omega, fun h => h m hm⟩
theorem atI_neg1 {xs : List V} {n : Nat} {x : V} (hl : xs.length = n + 1) (hx : xs[n]? = some x) : atI xs (-1) = some x := by
  unfold atI ixN
  rw [if_neg (by decide), if_pos (by omega)]
  show xs[((-1 : Int) + (xs.length : Int)).toNat]? = some x
  rw [show ((-1 : Int) + (xs.length : Int)).toNat = n by omega]
  exact hx
end
def G_l_hull : Gv := fun Z vs H R => ∃ v L C, vs = [v] ∧ Da Z H v (.tuple (L.map ptD)) ∧ (∀ q ∈ L, Ok q) ∧ L.Nodup ∧ L.length ≤ 20 ∧ IsHull C L ∧ R = DaR Z (.tuple (C.map ptD))
theorem gw {C L : List Pt} (h : IsHull C L) {k a b : Nat} (ha : k < a) (hb : k < b) (ham : a < C.length) (hbm : b < C.length) : det (gt C k) (gt C a) (gt C b) < 0 ↔ b < a := by
  rcases Nat.lt_trichotomy a b with g | g | g
  · have := h.conv k a b ha g hbm
    omega
  · subst g
    rw [det_abb]
    omega
  · have := h.conv k b a hb g ham
    have := det_sw2 (gt C k) (gt C b) (gt C a)
    omega
theorem hull_nd {C L : List Pt} (h : IsHull C L) : C.Nodup := by
  rw [List.Nodup, List.pairwise_iff_getElem]
  intro i j hi hj hij
  have := h.nd i j hij hj
  rw [gt_lt hi, gt_lt hj] at this
  exact this
theorem ok_l_hull (T : Tx K mg) : FnOk P w K mg base CX0 4 T.f_l_hull T.d_l_hull ["_law_points_here"] (spOf G_l_hull) := by
  refine T.F_l_hull.ok sc_l_hull (fun vs H Q E h => ?_) (fun cdv A outer s H vs Q E hr h => ?_)
  · obtain ⟨Z, R, _, ⟨v, L, C, rfl, _⟩, _⟩ := h
    rfl
  obtain ⟨Z, R, hw, ⟨v, L, C, rfl, hd, hok, hnd, l20, hull, rfl⟩, hq⟩ := h
  refine ⟨_, (pss_cons (ps_set (i := 1) sc_l_hull.nd rfl (Or.inl rfl) (pe_lst pa_nil))
  (pss_cons (ps_for PassesOwn.never rfl (pi_tup (pv 0)) (pg_name (i := 2) sc_l_hull.nd rfl (Or.inr rfl))
  (pss_cons (ps_par (i := 6) (j := 7) rfl sc_l_hull.nd rfl rfl (by decide) rfl rfl (pa_cons (pe_lc (own := [("_law_q", 17)]) (g := gName 17) rfl sc_l_hull.nd (pi_tup (pv 0)) (blkOk_by (own := [("_law_q", 17)]) (N := nm_l_hull) (sc := defScope s_l_hull) (by decide +kernel)) (fun _ _ _ _ _ => pg_name (i := 17) sc_l_hull.nd rfl (Or.inl rfl)) (fun _ _ _ _ _ => pts_one (pt_cmpR (op_neDK (K := K) rfl hr.units) (pv 17) (pv 2) (nomark _))) (fun _ _ _ _ _ => (pv 17))) (pa_cons pe_bl pa_nil)) (by rfl))
    (pss_cons (ps_for PassesOwn.never rfl (pi_range1 (by rfl) T.z_range (pa_cons (pe_callB call_len_seq (by rfl) T.z_len (by decide +kernel) (pa_cons (pv 6) pa_nil)) pa_nil)) (pg_name (i := 8) sc_l_hull.nd rfl (Or.inl rfl))
    (pss_one (ps_for PassesOwn.never rfl (pi_range1 (by rfl) T.z_range (pa_cons (pv 8) pa_nil)) (pg_name (i := 11) sc_l_hull.nd rfl (Or.inl rfl))
      (pss_cons (ps_set (i := 7) sc_l_hull.nd rfl (Or.inl rfl) (pe_or (pv 7) (pe_one (pe_call (ok_l_between T) (hr.mono (by decide)) (by rfl) T.g_l_between T.F_l_between.kp T.b_l_between .nil pass0 (pa_cons (pe_ix ix_list (pv 6) (pv 8) (fun _ _ => rfl)) (pa_cons (pe_ix ix_list (pv 6) (pv 11) (fun _ _ => rfl)) (pa_cons (pv 2) pa_nil)))))))
        (pss_one (ps_for PassesOwn.never rfl (pi_range1 (by rfl) T.z_range (pa_cons (pv 11) pa_nil)) (pg_name (i := 12) sc_l_hull.nd rfl (Or.inl rfl))
        (pss_cons (ps_par3 (i := 13) (j := 14) (l := 15) rfl sc_l_hull.nd rfl rfl rfl (by decide) (by decide) (by decide) rfl rfl rfl (pa_cons (pe_ix ix_list (pv 6) (pv 8) (fun _ _ => rfl)) (pa_cons (pe_ix ix_list (pv 6) (pv 11) (fun _ _ => rfl)) (pa_cons (pe_ix ix_list (pv 6) (pv 12) (fun _ _ => rfl)) pa_nil))) (by rfl))
          (pss_cons (ps_set (i := 16) sc_l_hull.nd rfl (Or.inl rfl) (pe_lst (pa_cons (pe_call (ok_l_turn T) (hr.mono (by decide)) (by rfl) T.g_l_turn T.F_l_turn.kp T.b_l_turn .nil pass0 (pa_cons (pv 13) (pa_cons (pv 14) (pa_cons (pv 2) pa_nil)))) (pa_cons (pe_call (ok_l_turn T) (hr.mono (by decide)) (by rfl) T.g_l_turn T.F_l_turn.kp T.b_l_turn .nil pass0 (pa_cons (pv 14) (pa_cons (pv 15) (pa_cons (pv 2) pa_nil)))) (pa_cons (pe_call (ok_l_turn T) (hr.mono (by decide)) (by rfl) T.g_l_turn T.F_l_turn.kp T.b_l_turn .nil pass0 (pa_cons (pv 15) (pa_cons (pv 13) (pa_cons (pv 2) pa_nil)))) pa_nil)))))
          (pss_one (ps_set (i := 7) sc_l_hull.nd rfl (Or.inl rfl) (pe_or (pv 7) (pe_one (pe_and (pe_cmpR op_ne (pe_call (ok_l_turn T) (hr.mono (by decide)) (by rfl) T.g_l_turn T.F_l_turn.kp T.b_l_turn .nil pass0 (pa_cons (pv 13) (pa_cons (pv 14) (pa_cons (pv 15) pa_nil)))) pe_int (nomark _)) (pe_one (pe_or (pe_cmpR op_ge (pe_callB (cr_min rfl) (by rfl) T.z_min (by decide +kernel) (pa_cons (pv 16) pa_nil)) pe_int (nomark _)) (pe_one (pe_cmpR op_le (pe_callB (cr_max rfl) (by rfl) T.z_max (by decide +kernel) (pa_cons (pv 16) pa_nil)) pe_int (nomark _))))))))))))))))))
    (pss_one (ps_if (pt_not (pt_val (pv 7)))
    (pss_one (ps_expr (pe_bm PySem.F.plainAttrs_list PySem.F.slot_list_append PySem.F.type_list_append mt_append (pv 1) (pa_cons (pv 2) pa_nil))))
    pss_nil)))))
  (pss_cons (ps_set (i := 3) sc_l_hull.nd rfl (Or.inl rfl) (pe_ix ix_list (pv 1) pe_int (fun _ _ => rfl)))
  (pss_cons (ps_for PassesOwn.never rfl (pi_list (pv 1)) (pg_name (i := 2) sc_l_hull.nd rfl (Or.inr rfl))
  (pss_one (ps_set (i := 3) sc_l_hull.nd rfl (Or.inl rfl) (pe_ifExp (pt_cmpR op_lt (pe_call (ok_l_order T) (hr.mono (by decide)) (by rfl) T.g_l_order T.F_l_order.kp T.b_l_order .nil pass0 (pa_cons (pv 2) (pa_cons (pv 3) pa_nil))) pe_int (nomark _)) (pv 2) (pv 3)))))
  (pss_cons (ps_set (i := 4) sc_l_hull.nd rfl (Or.inr rfl) (pe_lst (pa_cons (pv 3) pa_nil)))
  (pss_cons (ps_for PassesOwn.never rfl (pi_range1 (by rfl) T.z_range (pa_cons (pe_op op_sub (pe_callB call_len_seq (by rfl) T.z_len (by decide +kernel) (pa_cons (pv 1) pa_nil)) pe_int) pa_nil)) (pg_name (i := 5) sc_l_hull.nd rfl (Or.inl rfl))
  (pss_cons (ps_setLc (i := 9) (own := [("_law_p", 2)]) (g := gName 2) rfl sc_l_hull.nd rfl rfl (sw_true rfl rfl rfl (by decide +kernel)) (pi_list (pv 1)) (blkOk_by (own := [("_law_p", 2)]) (N := nm_l_hull) (sc := defScope s_l_hull) (by decide +kernel)) (fun _ _ _ _ _ => pg_name (i := 2) sc_l_hull.nd rfl (Or.inl rfl)) (fun _ _ _ _ _ => pts_one (pt_cmpR (op_notInDK (K := K) rfl (un65 hr)) (pv 2) (pv 4) (by rfl))) (fun _ _ _ _ _ => (pv 2)))
    (pss_cons (ps_set (i := 10) sc_l_hull.nd rfl (Or.inl rfl) (pe_ix ix_list (pv 9) pe_int (fun _ _ => rfl)))
    (pss_cons (ps_for PassesOwn.never rfl (pi_list (pv 9)) (pg_name (i := 2) sc_l_hull.nd rfl (Or.inr rfl))
    (pss_one (ps_set (i := 10) sc_l_hull.nd rfl (Or.inl rfl) (pe_ifExp (pt_cmpR op_lt (pe_call (ok_l_turn T) (hr.mono (by decide)) (by rfl) T.g_l_turn T.F_l_turn.kp T.b_l_turn .nil pass0 (pa_cons (pe_ix ix_list (pv 4) (pe_un un_neg pe_int) (fun _ _ => rfl)) (pa_cons (pv 10) (pa_cons (pv 2) pa_nil)))) pe_int (nomark _)) (pv 2) (pv 10)))))
    (pss_one (ps_expr (pe_bm PySem.F.plainAttrs_list PySem.F.slot_list_append PySem.F.type_list_append mt_append (pv 4) (pa_cons (pv 10) pa_nil))))))))
  (pss_one (ps_ret (pe_callTy call_tuple_of (by rfl) T.z_tuple (by decide +kernel) (pa_cons (pv 4) pa_nil)))))))))), ?_⟩
  rw [show L2.start nm_l_hull [v] = [some v, none, none, none, none, none, none, none, none, none, none, none, none, none, none, none, none, none] from rfl]
  obtain ⟨xs, hx, hxs⟩ := hd.tupE
  have hlen : xs.length = L.length := by rw [hxs.length, List.length_map]
  have hn : ∀ q ∈ L, Nm q := fun q hq => (hok q hq).nm
  let kp : Pt → Bool := fun p => decide (p ∈ C)
  refine q_asgN (Z := Z) (by walk_at "w") (en_lst' ea_nil (by simp)) fun f H1 ff nf e1 ⟨hf1, _⟩ => ?_
  show tSeq _ _ _ [some v, some (.ref f), none, none, none, none, none, none, none, none, none, none, none, none, none, none, none, none] H1
  refine q_forT (Z := Z) (by walk_at "w") (by walk_at "ev") (hx.mono e1) (fun n σ' H' => ∃ (y2 y6 y7 y8 y11 y12 y13 y14 y15 y16 : Option V) (fs : List V), σ' = [some v, some (.ref f), y2, none, none, none, y6, y7, y8, none, none, y11, y12, y13, y14, y15, y16, none] ∧ Xt Z H H' ∧ H' f = some (.lst fs) ∧ DaL Z H' fs (((L.take n).filter kp).map ptD))
    (fun H2 e2 => ⟨none, none, none, none, none, none, none, none, none, none, [], rfl, e1.trans e2, e2.kp _ _ nf hf1, .nil⟩) (fun n σ' H' ⟨_, _, _, _, _, _, _, _, _, _, _, _, e2, _⟩ => hx.mono e2) (fun n y σ' H' hy ⟨y2, y6, y7, y8, y11, y12, y13, y14, y15, y16, fs, es, e2, hf2, hfs⟩ => ?_) (fun σ' H' ⟨y2, y6, y7, y8, y11, y12, y13, y14, y15, y16, fs, es, e2, hf2, hfs⟩ => ?_)
  · subst es
    obtain ⟨p, hp, pp⟩ := getPt hxs hy
    have hpL := List.mem_of_getElem? hp
    have np := hn p hpL
    have pp2 := pp.mono e2
    have hins := ins_iff hok hull hpL
    generalize ho : (L.filter fun q => decide (q ≠ p)) = o at *
    have ol : o.length ≤ 20 := by rw [← ho]; exact Nat.le_trans (List.length_filter_le ..) l20
    have on : ∀ q ∈ o, Nm q := fun q hq => hn q (by rw [← ho] at hq; exact (List.mem_filter.mp hq).1)
    show tSeq _ _ _ [some v, some (.ref f), some y, none, none, none, y6, y7, y8, none, none, y11, y12, y13, y14, y15, y16, none] H'
    refine q_par (Z := Z) (by walk_at "w") (RA := fun us H3 => ∃ vo, us = [vo, .bl false] ∧ Da Z H3 vo (.list (o.map ptD))) (ea_consX (R := DaR Z (.list (o.map ptD))) (EvN.da ?_) fun vo H3 e3 r3 => ea_consX (R := IsV (.bl false)) ev_c fun v2 H4 e4 h4 => ea_nilX fun H5 e5 => ⟨vo, by rw [h4], r3.mono (e4.trans e5)⟩) fun us H3 e3 ⟨vo, hus, hvo⟩ => ⟨_, _, hus, ?_⟩
    · rw [← ho]
      refine en_lcTP (xs := xs) L (fun q => decide (q ≠ p)) ptD (by walk_at "ev") (hx.mono e2) hlen (by omega) (fun x => rfl) (fun q _ => ptD_noL q) (fun i x q H4 e4 hi hq' => ?_) (fun i x q H4 e4 hi hq' _ => ?_)
      · obtain ⟨q', hq1, pq⟩ := getPt hxs hi
        rw [hq'] at hq1
        cases hq1
        refine et_test (ev_is (ev_neDD (ev_da (ev_var rfl) (pq.mono (e2.trans e4)).da) (ev_da (ev_var rfl) (pp2.mono e4).da) (ptD_nod _) (ptD_nod _) (ptD_sh _) (ptD_sh _)) (by rw [ptD_eqv, decide_not]))
      · obtain ⟨q', hq1, pq⟩ := getPt hxs hi
        rw [hq'] at hq1
        cases hq1
        exact ev_da (ev_var rfl) (pq.mono (e2.trans e4)).da
    show tSeq _ _ _ [some v, some (.ref f), some y, none, none, none, some vo, some (.bl false), y8, none, none, y11, y12, y13, y14, y15, y16, none] H3
    obtain ⟨os, hos, osl, hosd⟩ := pt_list hvo
    have pp3 := pp2.mono e3
    have getO : ∀ i, i < o.length → ∃ z, atI os (i : Int) = some z ∧ P3 Z z (gt o i) H3 ∧ Nm (gt o i) := fun i hi => by
      obtain ⟨z, _, h1, h2⟩ := atPt hosd (gt_get hi)
      exact ⟨z, h1, h2, on _ (gt_mem hi)⟩
    refine q_forR1 (Z := Z) (n := (os.length : Int)) (by walk_at "w") (ea_cons (ev_lenL (by walk_at "ev") hos) ea_nil) ⟨by omega, by omega⟩ (fun i σ' H' => ∃ (y8 y11 y12 y13 y14 y15 y16 : Option V), σ' = [some v, some (.ref f), some y, none, none, none, some vo, some (.bl (iQ o p i)), y8, none, none, y11, y12, y13, y14, y15, y16, none] ∧ Xt Z H3 H') (fun H4 e4 => ⟨_, _, _, _, _, _, _, rfl, e4⟩) (fun i σ' H' hi ⟨y8, y11, y12, y13, y14, y15, y16, es, e4⟩ => ?_) (fun σ' H' ⟨y8, y11, y12, y13, y14, y15, y16, es, e4⟩ => ?_)
    · subst es
      have hio : i < o.length := by omega
      obtain ⟨z1, hz1, pz1, nz1⟩ := getO i hio
      show tFor _ _ _ _ [some v, some (.ref f), some y, none, none, none, some vo, some (.bl (iQ o p i)), some (.int (i : Int)), none, none, y11, y12, y13, y14, y15, y16, none] H'
      refine s_forR1 (Z := Z) (n := (i : Int)) (by walk_at "w") (ea_cons (by walk_at "ev") ea_nil) ⟨by omega, by omega⟩ (fun j σ' H' => ∃ (y11 y12 y13 y14 y15 y16 : Option V), σ' = [some v, some (.ref f), some y, none, none, none, some vo, some (.bl (iQ o p i || jQ o p i j)), some (.int (i : Int)), none, none, y11, y12, y13, y14, y15, y16, none] ∧ Xt Z H3 H') (fun H5 e5 => ⟨_, _, _, _, _, _, by rw [show jQ o p i 0 = false from rfl, Bool.or_false], e4.trans e5⟩) (fun j σ' H' hj ⟨y11, y12, y13, y14, y15, y16, es, e5⟩ => ?_) (fun σ' H' ⟨y11, y12, y13, y14, y15, y16, es, e5⟩ => ?_)
      · subst es
        have hjo : j < o.length := by omega
        obtain ⟨z2, hz2, pz2, nz2⟩ := getO j hjo
        show tSeq _ _ _ [some v, some (.ref f), some y, none, none, none, some vo, some (.bl (iQ o p i || jQ o p i j)), some (.int (i : Int)), none, none, some (.int (j : Int)), y12, y13, y14, y15, y16, none] H'
        have hos5 := hos.mono e5
        refine q_asg (Z := Z) (R := IsV (.bl ((iQ o p i || jQ o p i j) || lbt (gt o i) (gt o j) p))) (by walk_at "w") (ev_orV (ev_var rfl) fun _ => ev_l_between (ev_ixL (ev_var rfl) hos5 (ev_var rfl) hz1) (ev_ixL (ev_var rfl) hos5 (ev_var rfl) hz2) (ev_var rfl) (pz1.mono e5) (pz2.mono e5) (pp3.mono e5) nz1 nz2 np) fun vb H5 e6 r6 => ?_
        subst r6
        have e56 := e5.trans e6
        show tFor _ _ _ _ [some v, some (.ref f), some y, none, none, none, some vo, some (.bl ((iQ o p i || jQ o p i j) || lbt (gt o i) (gt o j) p)), some (.int (i : Int)), none, none, some (.int (j : Int)), y12, y13, y14, y15, y16, none] H5
        refine s_forR1 (Z := Z) (n := (j : Int)) (by walk_at "w") (ea_cons (by walk_at "ev") ea_nil) ⟨by omega, by omega⟩ (fun k σ' H' => ∃ (y12 y13 y14 y15 y16 : Option V), σ' = [some v, some (.ref f), some y, none, none, none, some vo, some (.bl (((iQ o p i || jQ o p i j) || lbt (gt o i) (gt o j) p) || kQ o p i j k)), some (.int (i : Int)), none, none, some (.int (j : Int)), y12, y13, y14, y15, y16, none] ∧ Xt Z H3 H') (fun H6 e7 => ⟨_, _, _, _, _, by rw [show kQ o p i j 0 = false from rfl, Bool.or_false], e56.trans e7⟩) (fun k σ' H' hk ⟨y12, y13, y14, y15, y16, es, e7⟩ => ?_) (fun σ' H' ⟨y12, y13, y14, y15, y16, es, e7⟩ => ?_)
        · subst es
          have hko : k < o.length := by omega
          obtain ⟨z3, hz3, pz3, nz3⟩ := getO k hko
          show tSeq _ _ _ [some v, some (.ref f), some y, none, none, none, some vo, some (.bl (((iQ o p i || jQ o p i j) || lbt (gt o i) (gt o j) p) || kQ o p i j k)), some (.int (i : Int)), none, none, some (.int (j : Int)), some (.int (k : Int)), y13, y14, y15, y16, none] H'
          have hos7 := hos.mono e7
          refine q_par3 (Z := Z) (RA := fun us _ => us = [z1, z2, z3]) (by walk_at "w") (ea_cons (ev_ixL (ev_var rfl) hos7 (ev_var rfl) hz1) (ea_cons (ev_ixL (ev_var rfl) hos7 (ev_var rfl) hz2) (ea_cons (ev_ixL (ev_var rfl) hos7 (ev_var rfl) hz3) ea_nil))) fun us H6 e8 hv => ⟨_, _, _, hv, ?_⟩
          have e78 := e7.trans e8
          have pa := pz1.mono e78
          have pb := pz2.mono e78
          have pc := pz3.mono e78
          have pq := pp3.mono e78
          generalize ga : gt o i = a at *
          generalize gb : gt o j = b at *
          generalize gc : gt o k = c at *
          show tSeq _ _ _ [some v, some (.ref f), some y, none, none, none, some vo, some (.bl (((iQ o p i || jQ o p i j) || lbt a b p) || kQ o p i j k)), some (.int (i : Int)), none, none, some (.int (j : Int)), some (.int (k : Int)), some z1, some z2, some z3, y16, none] H6
          refine q_asg (Z := Z) (R := DaR Z (.list ([sgn (det a b p), sgn (det b c p), sgn (det c a p)].map .int))) (by walk_at "w") (ev_lstD (ds := [.int (sgn (det a b p)), .int (sgn (det b c p)), .int (sgn (det c a p))]) (ea_consD (ev_da (ev_l_turn (ev_var rfl) (ev_var rfl) (ev_var rfl) pa pb pq nz1 nz2 np) (.int _)) (ea_consD (ev_da (ev_l_turn (ev_var rfl) (ev_var rfl) (ev_var rfl) pb pc pq nz2 nz3 np) (.int _)) (ea_consD (ev_da (ev_l_turn (ev_var rfl) (ev_var rfl) (ev_var rfl) pc pa pq nz3 nz1 np) (.int _)) ea_nilD))) (by simp)) fun vsd H7 e9 r9 => ?_
          show tAsg _ _ _ [some v, some (.ref f), some y, none, none, none, some vo, some (.bl (((iQ o p i || jQ o p i j) || lbt a b p) || kQ o p i j k)), some (.int (i : Int)), none, none, some (.int (j : Int)), some (.int (k : Int)), some z1, some z2, some z3, some vsd, none] H7
          refine s_asg (Z := Z) (R := IsV (.bl ((((iQ o p i || jQ o p i j) || lbt a b p) || kQ o p i j k) || condK a b c p))) (by walk_at "w") (ev_orV (ev_var rfl) fun _ => ev_is (ev_andV (ev_ne (ev_l_turn (ev_var rfl) (ev_var rfl) (ev_var rfl) (pa.mono e9) (pb.mono e9) (pc.mono e9) nz1 nz2 nz3) ev_c rfl) fun _ => ev_orV (ev_minge (ev_da (ev_var rfl) r9) (by simp)) fun _ => ev_maxle (ev_da (ev_var rfl) r9) (by simp)) ?_) fun vb H8 e10 r10 => ?_
          · unfold condK
            have := sgn_zero (det a b c)
            by_cases h : det a b c = 0
            · rw [this.mpr h]
              simp [h]
            · have h2 : sgn (det a b c) ≠ 0 := fun z => h (this.mp z)
              simp [h, h2]
          · subst r10
            refine ⟨some (.int (k : Int)), some z1, some z2, some z3, some vsd, ?_, e78.trans (e9.trans e10)⟩
            have : kQ o p i j (k + 1) = (kQ o p i j k || condK a b c p) := by
              unfold kQ
              rw [any_succ, ga, gb, gc]
            rw [this, Bool.or_assoc (((iQ o p i || jQ o p i j) || lbt a b p))]
            rfl
        · subst es
          refine ⟨some (.int (j : Int)), y12, y13, y14, y15, y16, ?_, e7⟩
          have : jQ o p i (j + 1) = (jQ o p i j || (lbt (gt o i) (gt o j) p || kQ o p i j j)) := by
            unfold jQ
            rw [any_succ]
          rw [this, ← Bool.or_assoc (jQ o p i j), ← Bool.or_assoc (iQ o p i), ← Bool.or_assoc (iQ o p i)]
          rfl
      · subst es
        refine ⟨some (.int (i : Int)), y11, y12, y13, y14, y15, y16, ?_, e5⟩
        have : iQ o p (i + 1) = (iQ o p i || jQ o p i i) := by
          unfold iQ
          rw [any_succ]
        rw [this]
        rfl
    · subst es
      have e24 := e2.trans (e3.trans e4)
      have hval : iQ o p os.length = !kp p := by
        rw [osl]
        by_cases h : p ∈ C
        · have : iQ o p o.length ≠ true := fun z => hins.mp z h
          show _ = !decide (p ∈ C)
          rw [decide_eq_true h]
          simpa using this
        · show _ = !decide (p ∈ C)
          rw [decide_eq_false h]
          exact hins.mpr h
      rw [show ((os.length : Int)).toNat = os.length by omega, hval]
      have et' : L.take (n + 1) = L.take n ++ [p] := by rw [List.take_succ, hp]; rfl
      refine s_when (Z := Z) (b := kp p) (by walk_at "w") (et_is (et_not (et_test (ev_var rfl))) (by simp)) (fun hb H5 e5 => ?_) (fun hb H5 e5 => ?_)
      · have e35 := (e3.trans e4).trans e5
        have fl : fs.length ≤ 20 := by
          rw [hfs.length, List.length_map]
          refine Nat.le_trans (List.length_filter_le ..) ?_
          rw [List.length_take]
          omega
        refine s_app (Z := Z) (l := f) (xs := fs) (by walk_at "w") (e35.kp _ _ nf hf2) nf (ev_var rfl) (ev_var rfl) (by omega) fun w H6 e6 r6 hf6 => ?_
        subst r6
        have e36 := e35.trans e6
        refine ⟨_, _, _, _, _, _, _, _, _, _, fs ++ [w], rfl, Xt.mut (e2.trans e36) ff nf hf6, upd_same, ?_⟩
        rw [et', List.filter_append, List.map_append, List.filter_cons, if_pos hb]
        exact (DaL.mut hf6 (pts_noL _) (hfs.mono e36)).append (.cons (Da.mut hf6 (ptD_noL p) (pp2.mono e36).da) .nil)
      · have e35 := (e3.trans e4).trans e5
        refine ⟨_, _, _, _, _, _, _, _, _, _, fs, rfl, e2.trans e35, e35.kp _ _ nf hf2, ?_⟩
        rw [et', List.filter_append, List.filter_cons, if_neg (by rw [hb]; decide), List.filter_nil, List.append_nil]
        exact hfs.mono e35
  · subst es
    rw [hlen, List.take_length] at hfs
    generalize hF : L.filter kp = F at *
    have Fm : ∀ q, q ∈ F ↔ q ∈ C := fun q => by
      rw [← hF, List.mem_filter]
      exact ⟨fun h => of_decide_eq_true h.2, fun h => ⟨hull.sub q h, decide_eq_true h⟩⟩
    have Fl : F.length = C.length := ((List.perm_ext_iff_of_nodup (by rw [← hF]; exact List.Nodup.sublist List.filter_sublist hnd) (hull_nd hull)).mpr Fm).length_eq
    have hC1 := hull.ne
    have hl2 : LiR Z fs (.ref f) H' := ⟨f, rfl, hf2, nf⟩
    have fl : fs.length = F.length := by rw [hfs.length, List.length_map]
    have C20 : C.length ≤ 20 := by
      rw [← Fl, ← hF]
      exact Nat.le_trans (List.length_filter_le ..) l20
    have CL : ∀ q ∈ F, q ∈ L := fun q hq => hull.sub q ((Fm q).mp hq)
    obtain ⟨z0, _, hz0, pz0⟩ := atPt hfs (gt_get (show 0 < F.length by omega))
    refine q_asg (Z := Z) (by walk_at "w") (ev_ixL (ev_var rfl) hl2 ev_c hz0) fun v3 H3 e3 r3 => ?_
    subst r3
    have nF : ∀ q ∈ F, Nm q := fun q hq => hn q (CL q hq)
    have oF : ∀ q ∈ F, Ok q := fun q hq => hok q (CL q hq)
    refine q_forL (Z := Z) (by walk_at "w") (by walk_at "ev") (hl2.mono e3) (fun n σ' H4 => ∃ (yl : V) (y2 : Option V) (q : Pt), σ' = [some v, some (.ref f), y2, some yl, none, none, y6, y7, y8, none, none, y11, y12, y13, y14, y15, y16, none] ∧ Xt Z H' H4 ∧ P3 Z yl q H4 ∧ q ∈ F ∧ ∀ r ∈ F.take n, ¬ plt r q) (fun H4 e4 => ⟨v3, y2, gt F 0, rfl, e3.trans e4, pz0.mono (e3.trans e4), gt_mem (by omega), fun r hr => by simp at hr⟩) (fun n σ' H4 ⟨_, _, _, _, e4, _⟩ => hl2.mono e4) (fun n y σ' H4 hy ⟨yl, y2, q, es, e4, pl, hqF, hlt⟩ => ?_) (fun σ' H4 ⟨yl, y2, q, es, e4, pl, hqF, hlt⟩ => ?_)
    · subst es
      obtain ⟨p, hp, pp⟩ := getPt hfs hy
      have hpF := List.mem_of_getElem? hp
      have pp4 := pp.mono e4
      have et' : F.take (n + 1) = F.take n ++ [p] := by rw [List.take_succ, hp]; rfl
      show tAsg _ _ _ [some v, some (.ref f), some y, some yl, none, none, y6, y7, y8, none, none, y11, y12, y13, y14, y15, y16, none] H4
      have ol := ord_lt p q
      by_cases ho : ordP p q < 0
      · refine s_asg (Z := Z) (R := IsV y) (by walk_at "w") (ev_if (b := true) (et_is (et_test (ev_i0 (ev_l_order (ev_var rfl) (ev_var rfl) pp4 pl (nF p hpF) (nF q hqF)) ev_c)) (decide_eq_true ho)) (fun _ => ev_var rfl) (fun h => by cases h)) fun w H5 e5 r5 => ?_
        subst r5
        refine ⟨w, some w, p, rfl, e4.trans e5, pp4.mono e5, hpF, fun r hr => ?_⟩
        rw [et'] at hr
        rcases List.mem_append.mp hr with hr | hr
        · intro h
          exact hlt r hr (plt_trans (okw (oF r (List.mem_of_mem_take hr))) (okw (oF p hpF)) (okw (oF q hqF)) h (ol.mp ho))
        · rw [List.mem_singleton.mp hr]
          exact plt_irr p
      · refine s_asg (Z := Z) (R := IsV yl) (by walk_at "w") (ev_if (b := false) (et_is (et_test (ev_i0 (ev_l_order (ev_var rfl) (ev_var rfl) pp4 pl (nF p hpF) (nF q hqF)) ev_c)) (decide_eq_false ho)) (fun h => by cases h) (fun _ => ev_var rfl)) fun w H5 e5 r5 => ?_
        subst r5
        refine ⟨w, some y, q, rfl, e4.trans e5, pl.mono e5, hqF, fun r hr => ?_⟩
        rw [et'] at hr
        rcases List.mem_append.mp hr with hr | hr
        · exact hlt r hr
        · rw [List.mem_singleton.mp hr]
          exact fun h => ho (ol.mpr h)
    · subst es
      rw [fl, List.take_length] at hlt
      have hq0 : q = gt C 0 := by
        rcases hull.least q (CL q hqF) with h | h
        · exact h
        · exact absurd h (hlt _ ((Fm _).mpr (gt_mem hC1)))
      subst hq0
      refine q_asgN (Z := Z) (by walk_at "w") (en_lst' (vs := [yl]) (ea_cons (ev_var rfl) ea_nil) (by simp)) fun d H5 fd nd' e5 ⟨hd5, _⟩ => ?_
      show tSeq _ _ _ [some v, some (.ref f), y2, some yl, some (.ref d), none, y6, y7, y8, none, none, y11, y12, y13, y14, y15, y16, none] H5
      have hl4 := hl2.mono e4
      have tk1 : C.take 1 = [gt C 0] := by
        cases hcc : C with
        | nil => rw [hcc] at hC1; simp at hC1
        | cons c0 cr => rfl
      refine q_forR1 (Z := Z) (n := (fs.length : Int) - 1) (by walk_at "w") (ea_cons (ev_i0 (ev_lenL (ev_var rfl) (hl4.mono e5)) ev_c) ea_nil) ⟨by omega, by omega⟩ (fun k σ' H' => ∃ (y2 y5 y9 y10 : Option V) (ds : List V), σ' = [some v, some (.ref f), y2, some yl, some (.ref d), y5, y6, y7, y8, y9, y10, y11, y12, y13, y14, y15, y16, none] ∧ Xt Z H4 H' ∧ H' d = some (.lst ds) ∧ DaL Z H' ds ((C.take (k + 1)).map ptD)) (fun H6 e6 => ⟨_, _, _, _, [yl], rfl, e5.trans e6, e6.kp _ _ nd' hd5, by rw [Nat.zero_add, tk1]; exact .cons (pl.mono (e5.trans e6)).da .nil⟩) (fun k σ' H' hk ⟨y2, y5, y9, y10, ds, es, e6, hd6, hds⟩ => ?_) (fun σ' H' ⟨y2, y5, y9, y10, ds, es, e6, hd6, hds⟩ => ?_)
      · subst es
        have hk1 : k + 1 < C.length := by omega
        have hld : LiR Z ds (.ref d) H' := ⟨d, rfl, hd6, nd'⟩
        have dl : ds.length = k + 1 := by
          rw [hds.length, List.length_map, List.length_take]
          omega
        have hl6 := hl4.mono e6
        have hfs6 := (hfs.mono e4).mono e6
        show tSeq _ _ _ [some v, some (.ref f), y2, some yl, some (.ref d), some (.int (k : Int)), y6, y7, y8, y9, y10, y11, y12, y13, y14, y15, y16, none] H'
        let lt : Pt → Bool := fun p => !decide (p ∈ C.take (k + 1))
        have tki : ∀ {a}, a < C.length → (gt C a ∈ C.take (k + 1) ↔ a ≤ k) := fun {a} ha => by
          constructor
          · intro h
            obtain ⟨b, hb, e⟩ := List.mem_iff_getElem.mp h
            rw [List.length_take] at hb
            rw [List.getElem_take] at e
            have : gt C b = gt C a := by rw [gt_lt (by omega)]; exact e
            rcases Nat.lt_trichotomy a b with g | g | g
            · exact absurd this.symm (hull.nd a b g (by omega))
            · omega
            · exact absurd this (hull.nd b a g ha)
          · intro h
            rw [List.mem_iff_getElem]
            exact ⟨a, by rw [List.length_take]; omega, by rw [List.getElem_take, gt_lt ha]⟩
        refine q_asg (Z := Z) (R := DaR Z (.list ((F.filter lt).map ptD))) (by walk_at "w") (EvN.da (en_lcLP (xs := fs) (RN := IsV (.ref f)) F lt ptD (ev_var rfl) (fun w H9 e9 hw9 => by rw [hw9]; exact hl6.mono e9) fl (by omega) (fun x => rfl) (fun q _ => ptD_noL q) (fun i x q H7 e7 hi hq' => ?_) (fun i x q H7 e7 hi hq' _ => ?_))) fun vlt H7 e7 r7 => ?_
        · obtain ⟨q', hq1, pq⟩ := getPt hfs6 hi
          rw [hq'] at hq1
          cases hq1
          exact et_test (ev_is (ev_notInD (ds := (C.take (k + 1)).map ptD) (ev_da (ev_var rfl) (pq.mono e7).da) (ev_da (ev_var rfl) ((hld.da hds).mono e7)) (ptD_nod _) (pts_nod _) (ptD_sh _) ((sm_ptsL _).sh (by decide))) (by rw [any_ptD]))
        · obtain ⟨q', hq1, pq⟩ := getPt hfs6 hi
          rw [hq'] at hq1
          cases hq1
          exact ev_da (ev_var rfl) (pq.mono e7).da
        show tSeq _ _ _ [some v, some (.ref f), y2, some yl, some (.ref d), some (.int (k : Int)), y6, y7, y8, some vlt, y10, y11, y12, y13, y14, y15, y16, none] H7
        generalize hG : F.filter lt = G at *
        have Gm : ∀ q, q ∈ G ↔ ∃ a, k < a ∧ a < C.length ∧ q = gt C a := fun q => by
          rw [← hG, List.mem_filter]
          constructor
          · rintro ⟨h1, h2⟩
            obtain ⟨a, ha, rfl⟩ := gt_of_mem ((Fm q).mp h1)
            have h3 : ¬ gt C a ∈ C.take (k + 1) := by simpa [lt] using h2
            rw [tki ha] at h3
            exact ⟨a, by omega, ha, rfl⟩
          · rintro ⟨a, h1, h2, rfl⟩
            refine ⟨(Fm _).mpr (gt_mem h2), ?_⟩
            have h3 : ¬ gt C a ∈ C.take (k + 1) := by rw [tki h2]; omega
            simpa [lt] using h3
        have hnext : gt C (k + 1) ∈ G := (Gm _).mpr ⟨k + 1, by omega, hk1, rfl⟩
        have G1 : 0 < G.length := List.length_pos_of_mem hnext
        obtain ⟨gs, hgs, gsl, hgsd⟩ := pt_list r7
        obtain ⟨b0, _, hb0, pb0⟩ := atPt hgsd (gt_get G1)
        refine q_asg (Z := Z) (by walk_at "w") (ev_ixL (ev_var rfl) hgs ev_c hb0) fun vb H8 e8 r8 => ?_
        subst r8
        show tSeq _ _ _ [some v, some (.ref f), y2, some yl, some (.ref d), some (.int (k : Int)), y6, y7, y8, some vlt, some vb, y11, y12, y13, y14, y15, y16, none] H8
        obtain ⟨yk, hyk, pk⟩ : ∃ yk, ds[k]? = some yk ∧ P3 Z yk (gt C k) H' := by
          have hkk : (C.take (k + 1))[k]? = some (gt C k) := by rw [List.getElem?_take_of_lt (by omega)]; exact gt_get (by omega)
          obtain ⟨yk, h1, _, h2⟩ := atPt hds hkk
          exact ⟨yk, h1, h2⟩
        have hdk := atI_neg1 dl hyk
        have nk := hn _ (hull.sub _ (gt_mem (show k < C.length by omega)))
        have nC : ∀ a, a < C.length → Nm (gt C a) := fun a ha => hn _ (hull.sub _ (gt_mem ha))
        obtain ⟨a0, ha0, ha0', ha0e⟩ := (Gm _).mp (gt_mem G1)
        refine q_forL (Z := Z) (by walk_at "w") (by walk_at "ev") (hgs.mono e8) (fun n σ' H9 => ∃ (y2 : Option V) (vb : V) (a : Nat), σ' = [some v, some (.ref f), y2, some yl, some (.ref d), some (.int (k : Int)), y6, y7, y8, some vlt, some vb, y11, y12, y13, y14, y15, y16, none] ∧ Xt Z H7 H9 ∧ P3 Z vb (gt C a) H9 ∧ k < a ∧ a < C.length ∧ ∀ r ∈ G.take n, ∃ c, r = gt C c ∧ a ≤ c ∧ c < C.length) (fun H9 e9 => ⟨y2, vb, a0, rfl, e8.trans e9, by rw [← ha0e]; exact pb0.mono (e8.trans e9), ha0, ha0', fun r hr => by simp at hr⟩) (fun n σ' H9 ⟨_, _, _, _, e9, _⟩ => hgs.mono e9) (fun n y σ' H9 hy ⟨y2, vb, a, es, e9, pb, hka, hac, hmin⟩ => ?_) (fun σ' H9 ⟨y2, vb, a, es, e9, pb, hka, hac, hmin⟩ => ?_)
        · subst es
          obtain ⟨p, hp, pp⟩ := getPt hgsd hy
          obtain ⟨b, hkb, hbc, rfl⟩ := (Gm p).mp (List.mem_of_getElem? hp)
          have et' : G.take (n + 1) = G.take n ++ [gt C b] := by rw [List.take_succ, hp]; rfl
          have pp9 := pp.mono e9
          have e79 := e7.trans e9
          have hld9 := hld.mono e79
          show tAsg _ _ _ [some v, some (.ref f), some y, some yl, some (.ref d), some (.int (k : Int)), y6, y7, y8, some vlt, some vb, y11, y12, y13, y14, y15, y16, none] H9
          have hgw := gw hull hka hkb hac hbc
          have htest : EvT Z (tTest (tOp (rI0 fun i j => .bl (decide (i < j))) (tCall (spOf G_l_turn) [] E0 (tCons (tOp (rIxL K) (tVar 4) (tUn (rU fun i => .int (-i)) (tC (.int 1)))) (tCons (tVar 10) (tCons (tVar 2) tNil)))) (tC (.int 0)))) [some v, some (.ref f), some y, some yl, some (.ref d), some (.int (k : Int)), y6, y7, y8, some vlt, some vb, y11, y12, y13, y14, y15, y16, none] H9 (decide (b < a)) :=
            et_is (et_test (ev_i0 (ev_l_turn (ev_ixL (ev_var rfl) hld9 (ev_neg ev_c) hdk) (ev_var rfl) (ev_var rfl) (pk.mono e79) pb pp9 nk (nC a hac) (nC b hbc)) ev_c)) (decide_eq_decide.mpr ((sgn_neg _).trans hgw))
          by_cases hba : b < a
          · refine s_asg (Z := Z) (R := IsV y) (by walk_at "w") (ev_if (b := true) (et_is htest (decide_eq_true hba)) (fun _ => ev_var rfl) (fun h => by cases h)) fun w H10 e10 r10 => ?_
            subst r10
            refine ⟨some w, w, b, rfl, e9.trans e10, pp9.mono e10, hkb, hbc, fun r hr => ?_⟩
            rw [et'] at hr
            rcases List.mem_append.mp hr with hr | hr
            · obtain ⟨c, h1, h2, h3⟩ := hmin r hr
              exact ⟨c, h1, by omega, h3⟩
            · exact ⟨b, List.mem_singleton.mp hr, Nat.le_refl _, hbc⟩
          · refine s_asg (Z := Z) (R := IsV vb) (by walk_at "w") (ev_if (b := false) (et_is htest (decide_eq_false hba)) (fun h => by cases h) (fun _ => ev_var rfl)) fun w H10 e10 r10 => ?_
            subst r10
            refine ⟨some y, w, a, rfl, e9.trans e10, pb.mono e10, hka, hac, fun r hr => ?_⟩
            rw [et'] at hr
            rcases List.mem_append.mp hr with hr | hr
            · exact hmin r hr
            · exact ⟨b, List.mem_singleton.mp hr, by omega, hbc⟩
        · subst es
          rw [gsl, List.take_length] at hmin
          have hak : a = k + 1 := by
            obtain ⟨c, h1, h2, h3⟩ := hmin _ hnext
            rcases Nat.lt_trichotomy (k + 1) c with g | g | g
            · exact absurd h1 (hull.nd _ _ g h3)
            · omega
            · exact absurd h1.symm (hull.nd _ _ g hk1)
          subst hak
          have e79 := e7.trans e9
          refine s_app (Z := Z) (l := d) (xs := ds) (by walk_at "w") (e79.kp _ _ nd' hd6) nd' (ev_var rfl) (ev_var rfl) (by omega) fun w H10 e10 r10 hd10 => ?_
          subst r10
          have e710 := e79.trans e10
          refine ⟨_, _, _, _, ds ++ [w], rfl, Xt.mut (e6.trans e710) fd nd' hd10, upd_same, ?_⟩
          have et' : C.take (k + 1 + 1) = C.take (k + 1) ++ [gt C (k + 1)] := by rw [List.take_succ, gt_get hk1]; rfl
          rw [et', List.map_append]
          exact (DaL.mut hd10 (pts_noL _) (hds.mono e710)).append (.cons (Da.mut hd10 (ptD_noL _) (pb.mono e10).da) .nil)
      · subst es
        rw [show ((fs.length : Int) - 1).toNat + 1 = C.length by omega, List.take_length] at hds
        have hld : LiR Z ds (.ref d) H' := ⟨d, rfl, hd6, nd'⟩
        exact s_ret (Z := Z) (by walk_at "w") (ev_tupOfD (ds := C.map ptD) (ev_da (ev_var rfl) (hld.da hds))) fun v4 H7 e7 r7 => hq _ _ (e2.trans (e4.trans (e6.trans e7))) r7
section
variable {Z : Wd} {σ : L2.St} {H : Hp} {ta tb tc : TE} {E : XK}
theorem ev_l_hull {v : V} {L C : List Pt} (h1 : Ev Z ta σ H (IsV v)) (hp : Da Z H v (.tuple (L.map ptD))) (hok : ∀ q ∈ L, Ok q) (nd : L.Nodup) (l : L.length ≤ 20) (hh : IsHull C L) : Ev Z (tCall (spOf G_l_hull) [] E (tCons ta tNil)) σ H (DaR Z (.tuple (C.map ptD))) :=
  ev_call (ea_cons h1 ea_nil) fun H1 e => ⟨v, L, C, rfl, hp.mono e, hok, nd, l, hh, rfl⟩
end
end
end Hk
/-! ## F24 -/
namespace Hk
open PySem PySem.Spec PyProof.Rows L2
local macro_rules | `(tactic| walk_at "bd") => `(tactic| first
  | assumption
  | exact (show B 64 _ from by unfold B; decide)
  | (refine' B.mul ?b1 ?b2; (case b1 => walk_at "bd"); (case b2 => walk_at "bd"))
  | (refine' B.sub ?b1 ?b2; (case b1 => walk_at "bd"); (case b2 => walk_at "bd"))
  | (refine' B.add ?b1 ?b2; (case b1 => walk_at "bd"); (case b2 => walk_at "bd"))
  | (refine' B.neg ?b1; (case b1 => walk_at "bd")))
local macro_rules | `(tactic| walk_at "da") => `(tactic| first
  | assumption
  | exact Da.int _
  | exact Da.non
  | exact Da.bl _
  | exact Da.str _
  | ((with_reducible refine' P3.mono (by assumption) ?d1); (case d1 => walk_at "da"))
  | ((with_reducible refine' Ra.mono (by assumption) ?d1); (case d1 => walk_at "da"))
  | ((with_reducible refine' TuR.mono (by assumption) ?d1); (case d1 => walk_at "da"))
  | ((with_reducible refine' LiR.mono (by assumption) ?d1); (case d1 => walk_at "da"))
  | ((with_reducible refine' Da.mono (by assumption) ?d1); (case d1 => walk_at "da")))
local macro_rules | `(tactic| walk_at "xt") => `(tactic| first
  | assumption
  | (refine' Xt.trans ?x1 (by assumption); (case x1 => walk_at "xt")))
local macro_rules | `(tactic| walk_at "w") => `(tactic| first
  | assumption
  | exact Xt.w2 (by assumption)
  | exact Xt.w1 (by assumption))
local macro_rules | `(tactic| walk_at "side") => `(tactic| first
  | assumption
  | (refine' B.cmul ?b1 ?b2 ?b3; (case b1 => walk_at "bd"); (case b2 => walk_at "bd"); (case b3 => first | decide | omega))
  | (refine' B.cdiv ?b1 ?b2 ?b3; (case b1 => assumption); (case b2 => walk_at "bd"); (case b3 => first | decide | omega)))
local macro_rules | `(tactic| walk_at "ea") => `(tactic| first
  | with_reducible exact ea_nil
  | ((with_reducible refine' ea_cons ?p1 ?p2); (case p1 => walk_at "ev"); (case p2 => walk_at "ea")))
local macro_rules | `(tactic| walk_at "et") => `(tactic| first
  | ((with_reducible refine' et_and ?p1 ?p2); (case p1 => walk_at "et"); (case p2 => intro _; walk_at "et"))
  | ((with_reducible refine' et_or ?p1 ?p2); (case p1 => walk_at "et"); (case p2 => intro _; walk_at "et"))
  | ((with_reducible refine' et_not ?p1); (case p1 => walk_at "et"))
  | ((with_reducible refine' et_test ?p1); (case p1 => walk_at "ev"))
  | ((with_reducible refine' et_B ?p1); (case p1 => walk_at "ev")))
local macro_rules | `(tactic| walk_at "ev") => `(tactic| first
  | with_reducible exact ev_c
  | ((with_reducible refine' ev_var ?v1); (case v1 => exact rfl))
  | ((with_reducible refine' ev_px ?p1 ?p2 ?p3); (case p1 => walk_at "ev"); (case p2 => walk_at "da"); (case p3 => with_reducible exact ev_c))
  | ((with_reducible refine' ev_py ?p1 ?p2 ?p3); (case p1 => walk_at "ev"); (case p2 => walk_at "da"); (case p3 => with_reducible exact ev_c))
  | ((with_reducible refine' ev_pw ?p1 ?p2 ?p3); (case p1 => walk_at "ev"); (case p2 => walk_at "da"); (case p3 => with_reducible exact ev_c))
  | ((with_reducible refine' ev_ixT ?p1 ?p2 ?p3 ?p4); (case p1 => walk_at "ev"); (case p2 => walk_at "da"); (case p3 => walk_at "ev"); (case p4 => first | exact rfl | assumption))
  | ((with_reducible refine' ev_ixL ?p1 ?p2 ?p3 ?p4); (case p1 => walk_at "ev"); (case p2 => walk_at "da"); (case p3 => walk_at "ev"); (case p4 => first | exact rfl | assumption))
  | ((with_reducible refine' ev_i0 ?p1 ?p2); (case p1 => walk_at "ev"); (case p2 => walk_at "ev"))
  | ((with_reducible refine' ev_iC ?p1 ?p2 ?p3); (case p1 => walk_at "ev"); (case p2 => walk_at "ev"); (case p3 => walk_at "side"))
  | ((with_reducible refine' ev_neg ?p1); (case p1 => walk_at "ev"))
  | ((with_reducible refine' ev_eq ?p1 ?p2 ?p3); (case p1 => walk_at "ev"); (case p2 => walk_at "ev"); (case p3 => exact rfl))
  | ((with_reducible refine' ev_ne ?p1 ?p2 ?p3); (case p1 => walk_at "ev"); (case p2 => walk_at "ev"); (case p3 => exact rfl))
  | ((with_reducible refine' ev_andV ?p1 ?p2); (case p1 => walk_at "ev"); (case p2 => intro _; walk_at "ev"))
  | ((with_reducible refine' ev_orV ?p1 ?p2); (case p1 => walk_at "ev"); (case p2 => intro _; walk_at "ev"))
  | ((with_reducible refine' ev_notV ?p1); (case p1 => walk_at "ev"))
  | ((with_reducible refine' ev_subB ?p1 ?p2); (case p1 => walk_at "ev"); (case p2 => walk_at "ev"))
  | ((with_reducible refine' ev_chI ?p1 ?p2 ?p3); (case p1 => walk_at "ev"); (case p2 => walk_at "ev"); (case p3 => walk_at "ev"))
  | ((with_reducible refine' ev_isInt ?p1 ?p2); (case p1 => walk_at "ev"); (case p2 => walk_at "da"))
  | ((with_reducible refine' ev_isBool ?p1 ?p2); (case p1 => walk_at "ev"); (case p2 => walk_at "da"))
  | ((with_reducible refine' ev_isStr ?p1 ?p2); (case p1 => walk_at "ev"); (case p2 => walk_at "da"))
  | ((with_reducible refine' ev_isTup ?p1 ?p2); (case p1 => walk_at "ev"); (case p2 => walk_at "da"))
  | ((with_reducible refine' ev_isLst ?p1 ?p2); (case p1 => walk_at "ev"); (case p2 => walk_at "da"))
  | ((with_reducible refine' ev_isTL ?p1 ?p2); (case p1 => walk_at "ev"); (case p2 => walk_at "da"))
  | ((with_reducible refine' ev_lenT ?p1 ?p2); (case p1 => walk_at "ev"); (case p2 => walk_at "da"))
  | ((with_reducible refine' ev_lenL ?p1 ?p2); (case p1 => walk_at "ev"); (case p2 => walk_at "da"))
  | ((with_reducible refine' ev_abs ?p1); (case p1 => walk_at "ev"))
  | ((with_reducible refine' ev_min2 ?p1 ?p2); (case p1 => walk_at "ev"); (case p2 => walk_at "ev"))
  | ((with_reducible refine' ev_int1 ?p1); (case p1 => walk_at "ev"))
  | ((with_reducible refine' ev_isN ?p1); (case p1 => walk_at "ev"))
  | ((with_reducible refine' ev_notN ?p1); (case p1 => walk_at "ev"))
  | ((with_reducible refine' ev_sign ?p1); (case p1 => walk_at "ev"))
  | ((with_reducible refine' ev_gcd ?p1 ?p2); (case p1 => walk_at "ev"); (case p2 => walk_at "ev"))
  | ((with_reducible refine' ev_is_in ?p1 ?p2 ?p3 ?p4); (case p1 => walk_at "ev"); (case p2 => walk_at "da"); (case p3 => walk_at "ev"); (case p4 => walk_at "ev"))
  | ((with_reducible refine' ev_doubled ?p1 ?p2 ?p3 ?p4 ?p5 ?p6 ?p7 ?p8 ?p9); (case p1 => walk_at "ev"); (case p2 => walk_at "ev"); (case p3 => walk_at "ev"); (case p4 => walk_at "da"); (case p5 => walk_at "da"); (case p6 => walk_at "da"); (case p7 => assumption); (case p8 => assumption); (case p9 => assumption))
  | ((with_reducible refine' ev_order_of ?p1 ?p2 ?p3 ?p4 ?p5 ?p6); (case p1 => walk_at "ev"); (case p2 => walk_at "ev"); (case p3 => walk_at "da"); (case p4 => walk_at "da"); (case p5 => assumption); (case p6 => assumption))
  | ((with_reducible refine' ev_turn_of ?p1 ?p2 ?p3 ?p4 ?p5 ?p6 ?p7 ?p8 ?p9); (case p1 => walk_at "ev"); (case p2 => walk_at "ev"); (case p3 => walk_at "ev"); (case p4 => walk_at "da"); (case p5 => walk_at "da"); (case p6 => walk_at "da"); (case p7 => assumption); (case p8 => assumption); (case p9 => assumption))
  | ((with_reducible refine' ev_is_between ?p1 ?p2 ?p3 ?p4 ?p5 ?p6 ?p7 ?p8 ?p9); (case p1 => walk_at "ev"); (case p2 => walk_at "ev"); (case p3 => walk_at "ev"); (case p4 => walk_at "da"); (case p5 => walk_at "da"); (case p6 => walk_at "da"); (case p7 => assumption); (case p8 => assumption); (case p9 => assumption)))
section
variable {P : Program} {w : World} {K : PySem.W.Frag} {mg : Str → Option Value} {base : Heap}
theorem eqv_isStr {d : PyData} (s : Str) (hn : nod d = true) : PyData.eqv d (.str s) = isStrC d s := by
  cases d <;> simp [PyData.eqv, isStrC, nod] at hn ⊢
  rename_i x
  by_cases h : x = s
  · subst h; simp
  · simp [h]
def G_alk (G0 : Gv) : Gv := fun Z vs H R => ∃ vf vd, vs = [vf, vd] ∧
  ((∃ d s, Da Z H vf d ∧ vd = .str s ∧ nod d = true ∧ sm 10 d ∧ PyData.strOk s = true ∧ R = IsV (.bl (isStrC d s))) ∨
   (∃ i j : Int, vf = .int i ∧ vd = .int j ∧ R = IsV (.bl (decide (i = j)))) ∨
   (∃ a b : Bool, vf = .bl a ∧ vd = .bl b ∧ R = IsV (.bl (decide (a = b)))) ∨
   (∃ (xs ys : List V) (q : Nat → Bool), TuR Z xs vf H ∧ TuR Z ys vd H ∧ ys.length ≤ 50 ∧ xs.length ≤ 50 ∧ (∀ i x y, xs[i]? = some x → ys[i]? = some y → ∀ H1, Xt Z H H1 → G0 Z [x, y] H1 (IsV (.bl (q i)))) ∧ R = IsV (.bl (decide (xs.length = ys.length) && (List.range ys.length).all q))))
theorem tup_isT {Z : Wd} {H : Hp} {K : PySem.W.Frag} {a : Addr} {xs : List V} (h : H a = some (.tup xs)) : TyX K H (.ref a) (.type "tuple") := .base (.tup h)
section
variable {Z : Wd} {σ : L2.St} {H : Hp} {ta : TE} {v : V} {xs : List V}
theorem ev_isiV {c t : String} {b : Bool} (ha : Ev Z ta σ H (IsV v)) (ht : ∀ H1, Xt Z H H1 → TyX K H1 v (.type t)) (hk : kitB t c = some b) : Ev Z (tCB (rIsi K) (tCons ta (tCons (tC (.ty c)) tNil))) σ H (IsV (.bl b)) :=
  ev_cb (ea_cons ha (ea_cons ev_c ea_nil)) fun H1 e Q q => ⟨v, .ty c, _, _, b, rfl, .ty c, ht H1 e, kit_ty hk, q _ H1 (.refl e.w2) rfl⟩
theorem ev_isTLV {t : String} {b1 b2 : Bool} (ha : Ev Z ta σ H (IsV v)) (ht : ∀ H1, Xt Z H H1 → TyX K H1 v (.type t)) (h1 : kitB t "tuple" = some b1) (h2 : kitB t "list" = some b2) : Ev Z (tCB (rIsiT K) (tCons ta (tCons (tTup (tCons (tC (.ty "tuple")) (tCons (tC (.ty "list")) tNil))) tNil))) σ H (IsV (.bl (b1 || b2))) :=
  ev_cbX (RA := fun us H1 => ∃ p, us = [v, .ref p] ∧ H1 p = some (.tup [.ty "tuple", .ty "list"])) (ea_consX ha fun w1 H1 e1 h1 => ea_consX (ev_tupS (ea_cons ev_c (ea_cons ev_c ea_nil)) (by decide)) fun w2 H2 e2 ⟨p, ep, hp, hn⟩ => ea_nilX fun H3 e3 => ⟨p, by rw [h1, ep], e3.kp _ _ hn hp⟩)
    fun us H1 e ⟨p, e1, e2⟩ Q q => ⟨v, p, _, _, _, _, e1, e2, .cons (.ty _) (.cons (.ty _) .nil), ht H1 e, kit_any2 h1 h2, q _ H1 (.refl e.w2) rfl⟩
theorem TuR.ty {K : PySem.W.Frag} (h : TuR Z xs v H) : ∀ H1, Xt Z H H1 → TyX K H1 v (.type "tuple") := fun H1 e => by
  obtain ⟨a, rfl, h1, _⟩ := h.mono e
  exact tyX_rd h1
end
theorem alk (T : Tx K mg) {k : Nat} {G0 : Gv} (Fp : FnOk P w K mg base CX0 k T.f_l_alike T.d_l_alike ["_law_found", "_law_due"] (spOf G0)) : FnOk P w K mg base CX0 (k + 1) T.f_l_alike T.d_l_alike ["_law_found", "_law_due"] (spOf (G_alk G0)) := by
  refine T.F_l_alike.ok sc_l_alike (fun vs H Q E h => ?_) (fun cdv A outer s H vs Q E hr h => ?_)
  · obtain ⟨Z, R, _, ⟨vf, vd, rfl, _⟩, _⟩ := h
    rfl
  obtain ⟨Z, R, hw, ⟨vf, vd, rfl, hc⟩, hq⟩ := h
  refine ⟨_, (pss_cons (ps_if (pt_val (pe_callB call_isiT (by rfl) T.z_isinstance (by decide +kernel) (pa_cons (pv 1) (pa_cons (pe_tup (pa_cons (pe_bltn (v := .ty "tuple") (u := .type "tuple") (by rfl) T.z_tuple (by decide +kernel) rfl) (pa_cons (pe_bltn (v := .ty "list") (u := .type "list") (by rfl) T.z_list (by decide +kernel) rfl) pa_nil))) pa_nil))))
  (pss_cons (ps_if (PW.pt (pw_or (pt_not (pt_val (pe_callB call_isiT (by rfl) T.z_isinstance (by decide +kernel) (pa_cons (pv 0) (pa_cons (pe_tup (pa_cons (pe_bltn (v := .ty "tuple") (u := .type "tuple") (by rfl) T.z_tuple (by decide +kernel) rfl) (pa_cons (pe_bltn (v := .ty "list") (u := .type "list") (by rfl) T.z_list (by decide +kernel) rfl) pa_nil))) pa_nil))))) (pw_or1 (pt_cmpR op_ne (pe_callB call_isi (by rfl) T.z_isinstance (by decide +kernel) (pa_cons (pv 0) (pa_cons (pe_bltn (v := .ty "list") (u := .type "list") (by rfl) T.z_list (by decide +kernel) rfl) pa_nil))) (pe_callB call_isi (by rfl) T.z_isinstance (by decide +kernel) (pa_cons (pv 1) (pa_cons (pe_bltn (v := .ty "list") (u := .type "list") (by rfl) T.z_list (by decide +kernel) rfl) pa_nil))) (nomark _)))))
    (pss_one (ps_ret pe_bl))
    pss_nil)
    (pss_cons (ps_if (pt_cmpR op_ne (pe_callB call_len_seq (by rfl) T.z_len (by decide +kernel) (pa_cons (pv 0) pa_nil)) (pe_callB call_len_seq (by rfl) T.z_len (by decide +kernel) (pa_cons (pv 1) pa_nil)) (nomark _))
    (pss_one (ps_ret pe_bl))
    pss_nil)
    (pss_one (ps_ret (pe_cmpR (op_eqD hr.units) (pe_lc (own := [("_law_k", 2)]) (g := gName 2) rfl sc_l_alike.nd (pi_range1 (by rfl) T.z_range (pa_cons (pe_callB call_len_seq (by rfl) T.z_len (by decide +kernel) (pa_cons (pv 1) pa_nil)) pa_nil)) (blkOk_by (own := [("_law_k", 2)]) (N := nm_l_alike) (sc := defScope s_l_alike) (by decide +kernel)) (fun _ _ _ _ _ => pg_name (i := 2) sc_l_alike.nd rfl (Or.inl rfl)) (fun _ _ _ _ _ => pts_one (pt_not (pt_val (pe_call Fp hr (by rfl) T.g_l_alike T.F_l_alike.kp T.b_l_alike .nil pass0 (pa_cons (pe_ix (ix_tupK (K := K) rfl) (pv 0) (pv 2) (fun _ _ => rfl)) (pa_cons (pe_ix (ix_tupK (K := K) rfl) (pv 1) (pv 2) (fun _ _ => rfl)) pa_nil)))))) (fun _ _ _ _ _ => (pv 2))) (pe_lst pa_nil) (nomark _))))))
  pss_nil)
  (pss_cons (ps_if (PW.pt (pw_or (pt_cmpR op_isN (pv 1) pe_non (nomark _)) (pw_or1 (pt_val (pe_callB call_isi (by rfl) T.z_isinstance (by decide +kernel) (pa_cons (pv 1) (pa_cons (pe_bltn (v := .ty "str") (u := .type "str") (by rfl) T.z_str (by decide +kernel) rfl) pa_nil)))))))
  (pss_one (ps_ret (pe_and (pe_cmpR (op_eqD hr.units) (pv 0) (pv 1) (nomark _)) (pe_one (pe_cmpR op_eq (pe_callB call_isi (by rfl) T.z_isinstance (by decide +kernel) (pa_cons (pv 0) (pa_cons (pe_bltn (v := .ty "str") (u := .type "str") (by rfl) T.z_str (by decide +kernel) rfl) pa_nil))) (pe_callB call_isi (by rfl) T.z_isinstance (by decide +kernel) (pa_cons (pv 1) (pa_cons (pe_bltn (v := .ty "str") (u := .type "str") (by rfl) T.z_str (by decide +kernel) rfl) pa_nil))) (nomark _))))))
  pss_nil)
  (pss_one (ps_ret (pe_and (pe_callB call_isi (by rfl) T.z_isinstance (by decide +kernel) (pa_cons (pv 0) (pa_cons (pe_bltn (v := .ty "int") (u := .type "int") (by rfl) T.z_int (by decide +kernel) rfl) pa_nil))) (pe_and (pe_cmpR op_eq (pe_callB call_isi (by rfl) T.z_isinstance (by decide +kernel) (pa_cons (pv 0) (pa_cons (pe_bltn (v := .ty "bool") (u := .type "bool") (by rfl) T.z_bool (by decide +kernel) rfl) pa_nil))) (pe_callB call_isi (by rfl) T.z_isinstance (by decide +kernel) (pa_cons (pv 1) (pa_cons (pe_bltn (v := .ty "bool") (u := .type "bool") (by rfl) T.z_bool (by decide +kernel) rfl) pa_nil))) (nomark _)) (pe_one (pe_cmpR (op_eqD hr.units) (pv 0) (pv 1) (nomark _))))))))), ?_⟩
  rw [show L2.start nm_l_alike [vf, vd] = [some vf, some vd, none] from rfl]
  have isi : ∀ {H1 σ te d c b v}, Ev Z te σ H1 (IsV v) → Da Z H1 v d → kitB (tyD d) c = some b → Ev Z (tCB (rIsi K) (tCons te (tCons (tC (.ty c)) tNil))) σ H1 (IsV (.bl b)) := fun {H1 σ te d c b v} h1 h2 h3 => ev_isi h1 h2 h3
  rcases hc with ⟨d, s', hd, rfl, hn, hs, hso, rfl⟩ | ⟨i, j, rfl, rfl, rfl⟩ | ⟨a, b, rfl, rfl, rfl⟩ | ⟨xs, ys, q, hx, hy, l1, l2, hG, rfl⟩
  · have hdd : ∀ H1, Da Z H1 (.str s') (.str s') := fun H1 => .str s'
    refine q_when (Z := Z) (b := false) (by walk_at "w") (et_test (ev_isTL (ev_var rfl) (hdd H))) (fun h => by cases h) (fun _ H1 e1 => ?_)
    refine q_when (Z := Z) (b := true) (by walk_at "w") (et_is (a := false || true) (et_or (et_is (et_test (ev_isN (ev_var rfl))) rfl) fun _ => et_B (isi (ev_var rfl) (hdd H1) (kS _))) rfl) (fun _ H2 e2 => ?_) (fun h => by cases h)
    have hd2 := hd.mono (e1.trans e2)
    refine s_ret (Z := Z) (R := IsV (.bl (isStrC d s'))) (by walk_at "w") (ev_is (ev_andV (ev_eqDD (ev_da (ev_var rfl) hd2) (ev_da (ev_var rfl) (hdd H2)) hn (by simp [nod]) (hs.sh (by decide)) ((sm_str 0 hso).sh (by decide))) fun _ => ev_eq (isi (ev_var rfl) hd2 (kS d)) (isi (ev_var rfl) (hdd H2) (kS _)) rfl) ?_) fun w H3 e3 r3 => hq _ _ (e1.trans (e2.trans e3)) r3
    rw [eqv_isStr s' hn]
    cases d <;> simp [isStrC, isS]
  · have h1 : ∀ H1, Da Z H1 (.int i) (.int i) := fun H1 => .int i
    have h2 : ∀ H1, Da Z H1 (.int j) (.int j) := fun H1 => .int j
    refine q_when (Z := Z) (b := false) (by walk_at "w") (et_test (ev_isTL (ev_var rfl) (h2 H))) (fun h => by cases h) (fun _ H1 e1 => ?_)
    refine q_when (Z := Z) (b := false) (by walk_at "w") (et_is (a := false || false) (et_or (et_is (et_test (ev_isN (ev_var rfl))) rfl) fun _ => et_B (isi (ev_var rfl) (h2 H1) (kS _))) rfl) (fun h => by cases h) (fun _ H2 e2 => ?_)
    refine s_ret (Z := Z) (R := IsV (.bl (decide (i = j)))) (by walk_at "w") (ev_is (ev_andV (isi (ev_var rfl) (h1 H2) (kI _)) fun _ => ev_andV (ev_eq (isi (ev_var rfl) (h1 H2) (kB _)) (isi (ev_var rfl) (h2 H2) (kB _)) rfl) fun _ => ev_eqDD (ev_da (ev_var rfl) (h1 H2)) (ev_da (ev_var rfl) (h2 H2)) (by simp [nod]) (by simp [nod]) ((sm_int 0 i).sh (by decide)) ((sm_int 0 j).sh (by decide))) ?_) fun w H3 e3 r3 => hq _ _ (e1.trans (e2.trans e3)) r3
    simp [isI, isB, PyData.eqv]
    rfl
  · have h1 : ∀ H1, Da Z H1 (.bl a) (.bool a) := fun H1 => .bl a
    have h2 : ∀ H1, Da Z H1 (.bl b) (.bool b) := fun H1 => .bl b
    refine q_when (Z := Z) (b := false) (by walk_at "w") (et_test (ev_isTL (ev_var rfl) (h2 H))) (fun h => by cases h) (fun _ H1 e1 => ?_)
    refine q_when (Z := Z) (b := false) (by walk_at "w") (et_is (a := false || false) (et_or (et_is (et_test (ev_isN (ev_var rfl))) rfl) fun _ => et_B (isi (ev_var rfl) (h2 H1) (kS _))) rfl) (fun h => by cases h) (fun _ H2 e2 => ?_)
    refine s_ret (Z := Z) (R := IsV (.bl (decide (a = b)))) (by walk_at "w") (ev_is (ev_andV (isi (ev_var rfl) (h1 H2) (kI _)) fun _ => ev_andV (ev_eq (isi (ev_var rfl) (h1 H2) (kB _)) (isi (ev_var rfl) (h2 H2) (kB _)) rfl) fun _ => ev_eqDD (ev_da (ev_var rfl) (h1 H2)) (ev_da (ev_var rfl) (h2 H2)) (by simp [nod]) (by simp [nod]) ((sm_bool 0 a).sh (by decide)) ((sm_bool 0 b).sh (by decide))) ?_) fun w H3 e3 r3 => hq _ _ (e1.trans (e2.trans e3)) r3
    cases a <;> cases b <;> rfl
  · refine q_when (Z := Z) (b := true) (by walk_at "w") (et_test (ev_isTLV (t := "tuple") (b1 := true) (b2 := false) (ev_var rfl) hy.ty (kT (.tuple [])) (kL (.tuple [])))) (fun _ H1 e1 => ?_) (fun h => by cases h)
    have hx1 := hx.mono e1
    have hy1 := hy.mono e1
    refine q_when (Z := Z) (b := false) (by walk_at "w") (et_is (a := !(true || false) || (!decide (V.bl false = V.bl false))) (et_or (et_not (et_B (ev_isTLV (t := "tuple") (ev_var rfl) hx1.ty (kT (.tuple [])) (kL (.tuple []))))) fun _ => et_test (ev_ne (ev_isiV (t := "tuple") (ev_var rfl) hx1.ty (kL (.tuple []))) (ev_isiV (t := "tuple") (ev_var rfl) hy1.ty (kL (.tuple []))) rfl)) (by simp)) (fun h => by cases h) (fun _ H2 e2 => ?_)
    have hx2 := hx1.mono e2
    have hy2 := hy1.mono e2
    refine q_when (Z := Z) (b := decide (xs.length ≠ ys.length)) (by walk_at "w") (et_is (et_test (ev_ne (ev_lenT (ev_var rfl) hx2) (ev_lenT (ev_var rfl) hy2) rfl)) ?_) (fun hb H3 e3 => ?_) (fun hb H3 e3 => ?_)
    · by_cases h : xs.length = ys.length
      · simp [h]
      · have h2 : ¬ (xs.length : Int) = (ys.length : Int) := by omega
        simp [h, h2]
    · have hb := of_decide_eq_true hb
      refine s_ret (Z := Z) (by walk_at "w") (by walk_at "ev") fun w H4 e4 r4 => hq _ _ (e1.trans (e2.trans (e3.trans e4))) ?_
      rw [r4, decide_eq_false hb, Bool.false_and]
    · have hb := of_decide_eq_false hb
      have hl : xs.length = ys.length := Classical.not_not.mp hb
      have hx3 := hx2.mono e3
      have hy3 := hy2.mono e3
      have e13 := e1.trans (e2.trans e3)
      refine s_ret (Z := Z) (R := IsV (.bl (decide (xs.length = ys.length) && (List.range ys.length).all q))) (by walk_at "w") (ev_is (ev_eqDD (d := .list (((List.range ys.length).filter fun i => !q i).map fun (i : Nat) => PyData.int (i : Int))) (EvN.da (en_lcRP (n := ys.length) (fun i => !q i) (fun i => .int (i : Int)) (ea_cons (ev_lenT (ev_var rfl) hy3) ea_nil) (by omega) (fun x => rfl) (fun i _ => by simp [noL]) (fun i H4 e4 hi => ?_) (fun i H4 e4 hi _ => ev_da (ev_var rfl) (.int _)))) (ev_lstD ea_nilD (by simp)) ?_ (by simp [nod, nodL]) ?_ sh_nil) ?_) fun w H4 e4 r4 => hq _ _ (e13.trans e4) r4
      · have hgx : xs[i]? = some xs[i] := List.getElem?_eq_getElem (by omega)
        have hgy : ys[i]? = some ys[i] := List.getElem?_eq_getElem hi
        show EvT Z _ [some vf, some vd, some (.int (i : Int))] H4 (!q i)
        exact et_not (et_test (ev_call (ea_cons (ev_ixT (ev_var rfl) (hx3.mono e4) (ev_var rfl) (atI_nat hgx)) (ea_cons (ev_ixT (ev_var rfl) (hy3.mono e4) (ev_var rfl) (atI_nat hgy)) ea_nil)) fun H5 e5 => hG i _ _ hgx hgy H5 (e13.trans (e4.trans e5))))
      · rw [nod]
        exact nodL_all fun d hd => by
          obtain ⟨i, _, rfl⟩ := List.mem_map.mp hd
          simp [nod]
      · exact (sm_lst (n := 1) fun d hd => by
          obtain ⟨i, _, rfl⟩ := List.mem_map.mp hd
          exact sm_int _ _).sh (by decide)
      · rw [eqv_nil, decide_eq_true hl, Bool.true_and]
        congr 1
        rw [← filter_nil_all, Bool.eq_iff_iff, decide_eq_true_iff, decide_eq_true_iff, List.map_eq_nil_iff]
end
end Hk
/-! ## F25 -/
namespace Hk
open PySem PySem.Spec PyProof.Rows L2
local macro_rules | `(tactic| walk_at "bd") => `(tactic| first
  | assumption
  | exact (show B 64 _ from by unfold B; decide)
  | (refine' B.mul ?b1 ?b2; (case b1 => walk_at "bd"); (case b2 => walk_at "bd"))
  | (refine' B.sub ?b1 ?b2; (case b1 => walk_at "bd"); (case b2 => walk_at "bd"))
  | (refine' B.add ?b1 ?b2; (case b1 => walk_at "bd"); (case b2 => walk_at "bd"))
  | (refine' B.neg ?b1; (case b1 => walk_at "bd")))
local macro_rules | `(tactic| walk_at "da") => `(tactic| first
  | assumption
  | exact Da.int _
  | exact Da.non
  | exact Da.bl _
  | exact Da.str _
  | ((with_reducible refine' P3.mono (by assumption) ?d1); (case d1 => walk_at "da"))
  | ((with_reducible refine' Ra.mono (by assumption) ?d1); (case d1 => walk_at "da"))
  | ((with_reducible refine' TuR.mono (by assumption) ?d1); (case d1 => walk_at "da"))
  | ((with_reducible refine' LiR.mono (by assumption) ?d1); (case d1 => walk_at "da"))
  | ((with_reducible refine' Da.mono (by assumption) ?d1); (case d1 => walk_at "da")))
local macro_rules | `(tactic| walk_at "xt") => `(tactic| first
  | assumption
  | (refine' Xt.trans ?x1 (by assumption); (case x1 => walk_at "xt")))
local macro_rules | `(tactic| walk_at "w") => `(tactic| first
  | assumption
  | exact Xt.w2 (by assumption)
  | exact Xt.w1 (by assumption))
local macro_rules | `(tactic| walk_at "side") => `(tactic| first
  | assumption
  | (refine' B.cmul ?b1 ?b2 ?b3; (case b1 => walk_at "bd"); (case b2 => walk_at "bd"); (case b3 => first | decide | omega))
  | (refine' B.cdiv ?b1 ?b2 ?b3; (case b1 => assumption); (case b2 => walk_at "bd"); (case b3 => first | decide | omega)))
local macro_rules | `(tactic| walk_at "ea") => `(tactic| first
  | with_reducible exact ea_nil
  | ((with_reducible refine' ea_cons ?p1 ?p2); (case p1 => walk_at "ev"); (case p2 => walk_at "ea")))
local macro_rules | `(tactic| walk_at "et") => `(tactic| first
  | ((with_reducible refine' et_and ?p1 ?p2); (case p1 => walk_at "et"); (case p2 => intro _; walk_at "et"))
  | ((with_reducible refine' et_or ?p1 ?p2); (case p1 => walk_at "et"); (case p2 => intro _; walk_at "et"))
  | ((with_reducible refine' et_not ?p1); (case p1 => walk_at "et"))
  | ((with_reducible refine' et_test ?p1); (case p1 => walk_at "ev"))
  | ((with_reducible refine' et_B ?p1); (case p1 => walk_at "ev")))
local macro_rules | `(tactic| walk_at "ev") => `(tactic| first
  | with_reducible exact ev_c
  | ((with_reducible refine' ev_var ?v1); (case v1 => exact rfl))
  | ((with_reducible refine' ev_px ?p1 ?p2 ?p3); (case p1 => walk_at "ev"); (case p2 => walk_at "da"); (case p3 => with_reducible exact ev_c))
  | ((with_reducible refine' ev_py ?p1 ?p2 ?p3); (case p1 => walk_at "ev"); (case p2 => walk_at "da"); (case p3 => with_reducible exact ev_c))
  | ((with_reducible refine' ev_pw ?p1 ?p2 ?p3); (case p1 => walk_at "ev"); (case p2 => walk_at "da"); (case p3 => with_reducible exact ev_c))
  | ((with_reducible refine' ev_ixT ?p1 ?p2 ?p3 ?p4); (case p1 => walk_at "ev"); (case p2 => walk_at "da"); (case p3 => walk_at "ev"); (case p4 => first | exact rfl | assumption))
  | ((with_reducible refine' ev_ixL ?p1 ?p2 ?p3 ?p4); (case p1 => walk_at "ev"); (case p2 => walk_at "da"); (case p3 => walk_at "ev"); (case p4 => first | exact rfl | assumption))
  | ((with_reducible refine' ev_i0 ?p1 ?p2); (case p1 => walk_at "ev"); (case p2 => walk_at "ev"))
  | ((with_reducible refine' ev_iC ?p1 ?p2 ?p3); (case p1 => walk_at "ev"); (case p2 => walk_at "ev"); (case p3 => walk_at "side"))
  | ((with_reducible refine' ev_neg ?p1); (case p1 => walk_at "ev"))
  | ((with_reducible refine' ev_eq ?p1 ?p2 ?p3); (case p1 => walk_at "ev"); (case p2 => walk_at "ev"); (case p3 => exact rfl))
  | ((with_reducible refine' ev_ne ?p1 ?p2 ?p3); (case p1 => walk_at "ev"); (case p2 => walk_at "ev"); (case p3 => exact rfl))
  | ((with_reducible refine' ev_andV ?p1 ?p2); (case p1 => walk_at "ev"); (case p2 => intro _; walk_at "ev"))
  | ((with_reducible refine' ev_orV ?p1 ?p2); (case p1 => walk_at "ev"); (case p2 => intro _; walk_at "ev"))
  | ((with_reducible refine' ev_notV ?p1); (case p1 => walk_at "ev"))
  | ((with_reducible refine' ev_subB ?p1 ?p2); (case p1 => walk_at "ev"); (case p2 => walk_at "ev"))
  | ((with_reducible refine' ev_chI ?p1 ?p2 ?p3); (case p1 => walk_at "ev"); (case p2 => walk_at "ev"); (case p3 => walk_at "ev"))
  | ((with_reducible refine' ev_isInt ?p1 ?p2); (case p1 => walk_at "ev"); (case p2 => walk_at "da"))
  | ((with_reducible refine' ev_isBool ?p1 ?p2); (case p1 => walk_at "ev"); (case p2 => walk_at "da"))
  | ((with_reducible refine' ev_isStr ?p1 ?p2); (case p1 => walk_at "ev"); (case p2 => walk_at "da"))
  | ((with_reducible refine' ev_isTup ?p1 ?p2); (case p1 => walk_at "ev"); (case p2 => walk_at "da"))
  | ((with_reducible refine' ev_isLst ?p1 ?p2); (case p1 => walk_at "ev"); (case p2 => walk_at "da"))
  | ((with_reducible refine' ev_isTL ?p1 ?p2); (case p1 => walk_at "ev"); (case p2 => walk_at "da"))
  | ((with_reducible refine' ev_lenT ?p1 ?p2); (case p1 => walk_at "ev"); (case p2 => walk_at "da"))
  | ((with_reducible refine' ev_lenL ?p1 ?p2); (case p1 => walk_at "ev"); (case p2 => walk_at "da"))
  | ((with_reducible refine' ev_abs ?p1); (case p1 => walk_at "ev"))
  | ((with_reducible refine' ev_min2 ?p1 ?p2); (case p1 => walk_at "ev"); (case p2 => walk_at "ev"))
  | ((with_reducible refine' ev_int1 ?p1); (case p1 => walk_at "ev"))
  | ((with_reducible refine' ev_isN ?p1); (case p1 => walk_at "ev"))
  | ((with_reducible refine' ev_notN ?p1); (case p1 => walk_at "ev"))
  | ((with_reducible refine' ev_sign ?p1); (case p1 => walk_at "ev"))
  | ((with_reducible refine' ev_gcd ?p1 ?p2); (case p1 => walk_at "ev"); (case p2 => walk_at "ev"))
  | ((with_reducible refine' ev_is_in ?p1 ?p2 ?p3 ?p4); (case p1 => walk_at "ev"); (case p2 => walk_at "da"); (case p3 => walk_at "ev"); (case p4 => walk_at "ev"))
  | ((with_reducible refine' ev_doubled ?p1 ?p2 ?p3 ?p4 ?p5 ?p6 ?p7 ?p8 ?p9); (case p1 => walk_at "ev"); (case p2 => walk_at "ev"); (case p3 => walk_at "ev"); (case p4 => walk_at "da"); (case p5 => walk_at "da"); (case p6 => walk_at "da"); (case p7 => assumption); (case p8 => assumption); (case p9 => assumption))
  | ((with_reducible refine' ev_order_of ?p1 ?p2 ?p3 ?p4 ?p5 ?p6); (case p1 => walk_at "ev"); (case p2 => walk_at "ev"); (case p3 => walk_at "da"); (case p4 => walk_at "da"); (case p5 => assumption); (case p6 => assumption))
  | ((with_reducible refine' ev_turn_of ?p1 ?p2 ?p3 ?p4 ?p5 ?p6 ?p7 ?p8 ?p9); (case p1 => walk_at "ev"); (case p2 => walk_at "ev"); (case p3 => walk_at "ev"); (case p4 => walk_at "da"); (case p5 => walk_at "da"); (case p6 => walk_at "da"); (case p7 => assumption); (case p8 => assumption); (case p9 => assumption))
  | ((with_reducible refine' ev_is_between ?p1 ?p2 ?p3 ?p4 ?p5 ?p6 ?p7 ?p8 ?p9); (case p1 => walk_at "ev"); (case p2 => walk_at "ev"); (case p3 => walk_at "ev"); (case p4 => walk_at "da"); (case p5 => walk_at "da"); (case p6 => walk_at "da"); (case p7 => assumption); (case p8 => assumption); (case p9 => assumption)))
section
variable {P : Program} {w : World} {K : PySem.W.Frag} {mg : Str → Option Value} {base : Heap}
def Gbot : Gv := fun _ _ _ _ => False
def G_l_alike : Gv := G_alk (G_alk (G_alk Gbot))
theorem ok_l_alike (T : Tx K mg) : FnOk P w K mg base CX0 8 T.f_l_alike T.d_l_alike ["_law_found", "_law_due"] (spOf G_l_alike) := by
  have h5 : FnOk P w K mg base CX0 5 T.f_l_alike T.d_l_alike ["_law_found", "_law_due"] (spOf Gbot) := T.F_l_alike.ok sc_l_alike (fun vs H Q E h => by
    obtain ⟨Z, R, _, h, _⟩ := h
    exact h.elim) (fun cdv A outer s H vs Q E hr h => by
    obtain ⟨Z, R, _, h, _⟩ := h
    exact h.elim)
  exact alk T (alk T (alk T h5))
section
variable {Z : Wd} {σ : L2.St} {H : Hp} {ta tb tc : TE} {E : XK}
theorem ev_alk_str {vf : V} {d : PyData} {s : Str} (h1 : Ev Z ta σ H (IsV vf)) (h2 : Ev Z tb σ H (IsV (.str s))) (hd : Da Z H vf d) (hn : nod d = true) (hs : sm 10 d) (ho : PyData.strOk s = true) : Ev Z (tCall (spOf G_l_alike) [] E (tCons ta (tCons tb tNil))) σ H (IsV (.bl (isStrC d s))) :=
  ev_call (ea_cons h1 (ea_cons h2 ea_nil)) fun H1 e => ⟨vf, .str s, rfl, .inl ⟨d, s, hd.mono e, rfl, hn, hs, ho, rfl⟩⟩
theorem ev_alk_bool {a b : Bool} (h1 : Ev Z ta σ H (IsV (.bl a))) (h2 : Ev Z tb σ H (IsV (.bl b))) : Ev Z (tCall (spOf G_l_alike) [] E (tCons ta (tCons tb tNil))) σ H (IsV (.bl (decide (a = b)))) :=
  ev_call (ea_cons h1 (ea_cons h2 ea_nil)) fun H1 e => ⟨.bl a, .bl b, rfl, .inr (.inr (.inl ⟨a, b, rfl, rfl, rfl⟩))⟩
theorem alk_pt {x y : V} {p : Pt} {H1 : Hp} (hx : P3 Z x p H1) (hy : P3 Z y p H1) : G_alk (G_alk Gbot) Z [x, y] H1 (IsV (.bl true)) := by
  refine ⟨x, y, rfl, .inr (.inr (.inr ⟨_, _, fun _ => true, hx, hy, by simp, by simp, fun i a b ha hb H2 e2 => ?_, rfl⟩))⟩
  have key : ∃ k : Int, a = .int k ∧ b = .int k := by
    match i, ha, hb with
    | 0, ha, hb => cases ha; cases hb; exact ⟨_, rfl, rfl⟩
    | 1, ha, hb => cases ha; cases hb; exact ⟨_, rfl, rfl⟩
    | 2, ha, hb => cases ha; cases hb; exact ⟨_, rfl, rfl⟩
  obtain ⟨k, rfl, rfl⟩ := key
  exact ⟨_, _, rfl, .inr (.inl ⟨k, k, rfl, rfl, by simp⟩)⟩
theorem ev_alk_pts {C : List Pt} (h1 : Ev Z ta σ H (DaR Z (.tuple (C.map ptD)))) (h2 : Ev Z tb σ H (DaR Z (.tuple (C.map ptD)))) (hl : C.length ≤ 50) : Ev Z (tCall (spOf G_l_alike) [] E (tCons ta (tCons tb tNil))) σ H (IsV (.bl true)) :=
  ev_callX (RA := fun us H1 => ∃ v1 v2, us = [v1, v2] ∧ Da Z H1 v1 (.tuple (C.map ptD)) ∧ Da Z H1 v2 (.tuple (C.map ptD))) (ea_consX h1 fun v1 H1 e1 r1 => ea_consX (h2.mono e1) fun v2 H2 e2 r2 => ea_nilX fun H3 e3 => ⟨v1, v2, rfl, r1.mono (e2.trans e3), r2.mono e3⟩) fun us H1 e ⟨v1, v2, hu, r1, r2⟩ => by
    obtain ⟨xs, hx, hxs⟩ := r1.tupE
    obtain ⟨ys, hy, hys⟩ := r2.tupE
    have xl := hxs.length
    have yl := hys.length
    rw [List.length_map] at xl yl
    refine ⟨v1, v2, hu, .inr (.inr (.inr ⟨xs, ys, fun _ => true, hx, hy, by omega, by omega, fun i a b ha hb H2 e2 => ?_, by rw [List.all_eq_true.mpr (fun _ _ => rfl), decide_eq_true (by omega)]; rfl⟩))⟩
    obtain ⟨p, hp, pa⟩ := getPt hxs ha
    obtain ⟨q, hq, pb⟩ := getPt hys hb
    rw [hp] at hq
    cases hq
    exact alk_pt (pa.mono e2) (pb.mono e2)
end
def lmB (L : List Pt) (p : Pt) (d : PyData) : Bool := match d with
  | .tuple [d0, d1, d2] => isStrC d0 sIn && mixB L p d1 d2
  | _ => false
def lbB (L : List Pt) (p : Pt) (d : PyData) : Bool := match d with
  | .tuple [d0, d1, d2, d3] => isStrC d0 sOut && barB L p d1 d2 d3
  | _ => false
theorem show_or (L : List Pt) (p : Pt) (d : PyData) : showB L p d = (lmB L p d || lbB L p d) := by
  unfold showB
  split
  · simp [lmB, lbB]
  · simp [lmB, lbB]
  · rename_i h3 h4
    have h1 : lmB L p d = false := by
      unfold lmB
      split
      · exact absurd rfl (h3 _ _ _)
      · rfl
    have h2 : lbB L p d = false := by
      unfold lbB
      split
      · exact absurd rfl (h4 _ _ _ _)
      · rfl
    rw [h1, h2]
    rfl
theorem lmB_len {L : List Pt} {p : Pt} {ds : List PyData} (h3 : ds.length ≠ 3) : lmB L p (.tuple ds) = false := by
  unfold lmB
  split
  · rename_i e
    cases e
    exact absurd rfl h3
  · rfl
theorem lbB_len {L : List Pt} {p : Pt} {ds : List PyData} (h3 : ds.length ≠ 4) : lbB L p (.tuple ds) = false := by
  unfold lbB
  split
  · rename_i e
    cases e
    exact absurd rfl h3
  · rfl
/-! the law's barrier -/
section
variable {Z : Wd} {σ : L2.St} {H : Hp} {te tl : TE} {t : TT} {α : Type}
theorem en_lcTX {j : Nat} {vs : List Nat} {xs : List V} {RN : Rl} (f : Nat → Bool) (dd : Nat → PyData) (h : Ev Z tl σ H RN) (hx : ∀ v H1, Xt Z H H1 → RN v H1 → TuR Z xs v H1) (hz : xs.length ≤ 40000) (hw : ∀ x, wipe ((wipe σ vs).set j (some x)) vs = wipe σ vs) (hL : ∀ i, i < xs.length → f i = true → noL (dd i) = true)
    (ht : ∀ (i : Nat) (x : V) H1, Xt Z H H1 → xs[i]? = some x → EvT Z t ((wipe σ vs).set j (some x)) H1 (f i)) (he : ∀ (i : Nat) (x : V) H1, Xt Z H H1 → xs[i]? = some x → f i = true → Ev Z te ((wipe σ vs).set j (some x)) H1 (DaR Z (dd i))) :
    EvN Z (tLc (iTup K tl) (gName j) t te vs) σ H (fun p H2 => Da Z H2 (.ref p) (.list (givenD xs.length f dd))) := fun H0 e Q q => h H0 e _ fun w H1 e1 hw1 => by
  obtain ⟨a, rfl, h1, h2⟩ := hx w H1 (e.trans e1) hw1
  refine ⟨a, rfl, ⟨xs, .inl h1.h⟩, fun Dl hD => lc_tup (xs := xs) (Cw Z H1 f dd Dl) (cw_zero e1.w2 hD) (fun i H' _ p => .inl (p.2.2.1.rd h2 h1).h) (fun i x H' hi p => ⟨hw x, cw_turn p (by have := (List.getElem?_eq_some_iff.mp hi).1; omega) (List.getElem?_eq_some_iff.mp hi).1 hL (ht i x H' ((e.trans e1).trans p.2.2.1) hi) (fun H2 e2 hf => he i x H2 (((e.trans e1).trans p.2.2.1).trans e2) hi hf)⟩) (fun H' p => ?_)⟩
  obtain ⟨p1, pS, p2, acc, p3, p4⟩ := p
  exact q Dl H' (e1.backF pS p1) pS (e1.trans p2) (.lst p3 pS p4)
theorem en_lcTPX {j : Nat} {vs : List Nat} {xs : List V} {RN : Rl} (L : List α) (q : α → Bool) (g : α → PyData) (h : Ev Z tl σ H RN) (hx : ∀ v H1, Xt Z H H1 → RN v H1 → TuR Z xs v H1) (hl : xs.length = L.length) (hz : L.length ≤ 40000) (hw : ∀ x, wipe ((wipe σ vs).set j (some x)) vs = wipe σ vs) (hL : ∀ a ∈ L, noL (g a) = true)
    (ht : ∀ (i : Nat) (x : V) (a : α) H1, Xt Z H H1 → xs[i]? = some x → L[i]? = some a → EvT Z t ((wipe σ vs).set j (some x)) H1 (q a)) (he : ∀ (i : Nat) (x : V) (a : α) H1, Xt Z H H1 → xs[i]? = some x → L[i]? = some a → q a = true → Ev Z te ((wipe σ vs).set j (some x)) H1 (DaR Z (g a))) :
    EvN Z (tLc (iTup K tl) (gName j) t te vs) σ H (fun p H2 => Da Z H2 (.ref p) (.list ((L.filter q).map g))) := by
  rw [← givenD_mapL L q g (fOf L q) (dOf L g) fun i a e => ⟨fOf_get e, dOf_get e⟩, ← hl]
  refine en_lcTX (fOf L q) (dOf L g) h hx (by omega) hw (fun i hi _ => ?_) (fun i x H1 e hx => ?_) (fun i x H1 e hx hf => ?_)
  · obtain ⟨a, ha⟩ := get_some (hl ▸ hi)
    rw [dOf_get ha]
    exact hL a (List.mem_of_getElem? ha)
  · obtain ⟨a, ha⟩ := get_some (hl ▸ (List.getElem?_eq_some_iff.mp hx).1)
    rw [fOf_get ha]
    exact ht i x a H1 e hx ha
  · obtain ⟨a, ha⟩ := get_some (hl ▸ (List.getElem?_eq_some_iff.mp hx).1)
    rw [fOf_get ha] at hf
    rw [dOf_get ha]
    exact he i x a H1 e hx ha hf
end
def FitO (d : PyData) : Prop := ∀ d0 d1 d2 d3, d = .tuple [d0, d1, d2, d3] → noL d1 = true ∧ noL d2 = true ∧ noL d3 = true
def G_l_is_barrier : Gv := fun Z vs H R => ∃ v vp vv L p d, vs = [v, vp, vv] ∧ Da Z H v (.tuple (L.map ptD)) ∧ P3 Z vp p H ∧ (∀ q ∈ L, Nm q) ∧ 1 ≤ L.length ∧ L.length ≤ 40 ∧ Nm p ∧ Da Z H vv d ∧ Fit d ∧ FitO d ∧ R = IsV (.bl (lbB L p d))
theorem ok_l_is_barrier (T : Tx K mg) : FnOk P w K mg base CX0 9 T.f_l_is_barrier T.d_l_is_barrier ["_law_points_here", "_law_p", "_law_value"] (spOf G_l_is_barrier) := by
  refine T.F_l_is_barrier.ok sc_l_is_barrier (fun vs H Q E h => ?_) (fun cdv A outer s H vs Q E hr h => ?_)
  · obtain ⟨Z, R, _, ⟨v, vp, vv, L, p, d, rfl, _⟩, _⟩ := h
    rfl
  obtain ⟨Z, R, hw, ⟨v, vp, vv, L, p, d, rfl, hd, pp, hL, l1, l2, np, hv, hf, hfo, rfl⟩, hq⟩ := h
  refine ⟨_, (pss_cons (ps_if (PW.pt (pw_or (pt_not (pt_val (pe_callB call_isi (by rfl) T.z_isinstance (by decide +kernel) (pa_cons (pv 2) (pa_cons (pe_bltn (v := .ty "tuple") (u := .type "tuple") (by rfl) T.z_tuple (by decide +kernel) rfl) pa_nil))))) (pw_or (pt_cmpR op_ne (pe_callB call_len_seq (by rfl) T.z_len (by decide +kernel) (pa_cons (pv 2) pa_nil)) pe_int (nomark _)) (pw_or1 (pt_not (pt_val (pe_call (ok_l_alike T) (hr.mono (by decide)) (by rfl) T.g_l_alike T.F_l_alike.kp T.b_l_alike .nil pass0 (pa_cons (pe_ix ix_tup (pv 2) pe_int (fun _ _ => rfl)) (pa_cons pe_str pa_nil)))))))))
  (pss_one (ps_ret pe_bl))
  pss_nil)
  (pss_cons (ps_if (pt_cmpR (op_neD hr.units) (pe_lc (own := [("_law_n", 5)]) (g := gName 5) rfl sc_l_is_barrier.nd (pi_tup (pe_slice sl_tupA (pv 2) (po_some pe_int) po_none)) (blkOk_by (own := [("_law_n", 5)]) (N := nm_l_is_barrier) (sc := defScope s_l_is_barrier) (by decide +kernel)) (fun _ _ _ _ _ => pg_name (i := 5) sc_l_is_barrier.nd rfl (Or.inl rfl)) (fun _ _ _ _ _ => pts_one (PW.pt (pw_or (pt_not (pt_val (pe_callB (call_isiK (K := K) rfl) (by rfl) T.z_isinstance (by decide +kernel) (pa_cons (pv 5) (pa_cons (pe_bltn (v := .ty "int") (u := .type "int") (by rfl) T.z_int (by decide +kernel) rfl) pa_nil))))) (pw_or1 (pt_val (pe_callB (call_isiK (K := K) rfl) (by rfl) T.z_isinstance (by decide +kernel) (pa_cons (pv 5) (pa_cons (pe_bltn (v := .ty "bool") (u := .type "bool") (by rfl) T.z_bool (by decide +kernel) rfl) pa_nil)))))))) (fun _ _ _ _ _ => (pv 5))) (pe_lst pa_nil) (nomark _))
  (pss_one (ps_ret pe_bl))
  pss_nil)
  (pss_cons (ps_setLc (i := 3) (own := [("_law_q", 4)]) (g := gName 4) rfl sc_l_is_barrier.nd rfl rfl (sw_true rfl rfl rfl (by decide +kernel)) (pi_tup (pv 0)) (blkOk_by (own := [("_law_q", 4)]) (N := nm_l_is_barrier) (sc := defScope s_l_is_barrier) (by decide +kernel)) (fun _ _ _ _ _ => pg_name (i := 4) sc_l_is_barrier.nd rfl (Or.inl rfl)) (fun _ _ _ _ _ => pts_nil) (fun _ _ _ _ _ => (pe_op op_sub (pe_op op_add (pe_op op_mulW (pe_ix (ix_tupK (K := K) rfl) (pv 2) pe_int (fun _ _ => rfl)) (pe_ix (ix_tupK (K := K) rfl) (pv 4) pe_int (fun _ _ => rfl))) (pe_op op_mulW (pe_ix (ix_tupK (K := K) rfl) (pv 2) pe_int (fun _ _ => rfl)) (pe_ix (ix_tupK (K := K) rfl) (pv 4) pe_int (fun _ _ => rfl)))) (pe_op op_mulW (pe_ix (ix_tupK (K := K) rfl) (pv 2) pe_int (fun _ _ => rfl)) (pe_ix (ix_tupK (K := K) rfl) (pv 4) pe_int (fun _ _ => rfl))))))
  (pss_one (ps_ret (pe_chain op_le op_lt (pe_callB (cr_max rfl) (by rfl) T.z_max (by decide +kernel) (pa_cons (pv 3) pa_nil)) pe_int (pe_op op_sub (pe_op op_add (pe_op op_mulW (pe_ix ix_tup (pv 2) pe_int (fun _ _ => rfl)) (pe_ix ix_tup (pv 1) pe_int (fun _ _ => rfl))) (pe_op op_mulW (pe_ix ix_tup (pv 2) pe_int (fun _ _ => rfl)) (pe_ix ix_tup (pv 1) pe_int (fun _ _ => rfl)))) (pe_op op_mulW (pe_ix ix_tup (pv 2) pe_int (fun _ _ => rfl)) (pe_ix ix_tup (pv 1) pe_int (fun _ _ => rfl)))))))))), ?_⟩
  rw [show L2.start nm_l_is_barrier [v, vp, vv] = [some v, some vp, some vv, none, none, none] from rfl]
  obtain ⟨xs, hx, hxs⟩ := hd.tupE
  have hlen : xs.length = L.length := by rw [hxs.length, List.length_map]
  have no : ∀ {H5}, Xt Z H H5 → lbB L p d = false → Q (.bl false) H5 := fun {H5} e5 h => hq _ _ e5 (by rw [h])
  by_cases hT : isT d = false
  · refine q_when (Z := Z) (b := true) (by walk_at "w") (et_is (a := !isT d || (false || false)) (et_or (et_not (et_B (by walk_at "ev"))) fun h => by rw [hT] at h; cases h) (by rw [hT]; rfl)) (fun _ H3 e3 => ?_) (fun h => by cases h)
    refine s_ret (Z := Z) (by walk_at "w") (by walk_at "ev") fun w H4 e4 r3 => ?_
    subst r3
    refine no (by walk_at "xt") ?_
    unfold lbB
    split
    · cases hT
    · rfl
  obtain ⟨ds, rfl⟩ : ∃ ds, d = .tuple ds := by
    cases d <;> simp [isT] at hT
    exact ⟨_, rfl⟩
  have hfd := hf ds rfl
  obtain ⟨ys, hy, hys⟩ := hv.tupE
  have yl := hys.length
  by_cases h4 : ds.length ≠ 4
  · refine q_when (Z := Z) (b := true) (by walk_at "w") (et_is (a := !isT (.tuple ds) || ((!decide (V.int (ys.length : Int) = V.int 4)) || false)) (et_or (et_not (et_B (by walk_at "ev"))) fun _ => et_or (et_B (by walk_at "ev")) fun h => ?_) ?_) (fun _ H3 e3 => ?_) (fun h => by cases h)
    · exfalso
      simp at h
      omega
    · have : ¬ (ys.length : Int) = 4 := by omega
      simp [isT, this]
    · refine s_ret (Z := Z) (by walk_at "w") (by walk_at "ev") fun w H4 e4 r3 => ?_
      subst r3
      exact no (by walk_at "xt") (lbB_len h4)
  have h4 : ds.length = 4 := by omega
  obtain ⟨d0, d1, d2, d3, rfl⟩ : ∃ d0 d1 d2 d3, ds = [d0, d1, d2, d3] := by
    match ds, h4 with
    | [a, b, c, d], _ => exact ⟨a, b, c, d, rfl⟩
  have f0 := hfd d0 (by simp)
  have f1 := hfd d1 (by simp)
  have f2 := hfd d2 (by simp)
  have f3 := hfd d3 (by simp)
  cases hys with
  | cons y0 hys =>
  obtain ⟨v1, v2, v3, rfl, y1, y2, y3⟩ := da3 hys
  refine q_when (Z := Z) (b := !isStrC d0 sOut) (by walk_at "w") (et_is (a := !isT (.tuple [d0, d1, d2, d3]) || ((!decide (V.int 4 = V.int 4)) || !isStrC d0 sOut)) (et_or (et_not (et_B (by walk_at "ev"))) fun _ => et_or (et_B (ev_ne (ev_is (ev_lenT (ev_var rfl) hy) rfl) ev_c rfl)) fun _ => et_not (et_test (ev_alk_str (ev_ixT (ev_var rfl) hy ev_c rfl) ev_c y0 f0.n (f0.s.mono (by decide)) (by decide +kernel)))) (by simp [isT])) (fun hb H1 e1 => ?_) (fun hb H1 e1 => ?_)
  · refine s_ret (Z := Z) (by walk_at "w") (by walk_at "ev") fun w H4 e4 r3 => ?_
    subst r3
    refine no (by walk_at "xt") ?_
    have : isStrC d0 sOut = false := by simpa using hb
    show (isStrC d0 sOut && _) = false
    rw [this]
    rfl
  have hs0 : isStrC d0 sOut = true := by simpa using hb
  have hlb : lbB L p (.tuple [d0, d1, d2, d3]) = barB L p d1 d2 d3 := by
    show (isStrC d0 sOut && _) = _
    rw [hs0, Bool.true_and]
  let bad : PyData → Bool := fun d => !isI d || isB d
  have hds : DaL Z H [v1, v2, v3] [d1, d2, d3] := .cons y1 (.cons y2 (.cons y3 .nil))
  obtain ⟨o1, o2, o3⟩ := hfo d0 d1 d2 d3 rfl
  have hy1 := hy.mono e1
  have hds1 := hds.mono e1
  have sl : Ev Z (tSl (rSlA K) (tVar 2) (tPart (tC (.int 1))) tNoPart) [some v, some vp, some vv, none, none, none] H1 (TuR Z [v1, v2, v3]) := by
    have := ev_slT (K := K) (Z := Z) (σ := [some v, some vp, some vv, none, none, none]) (lo := some 1) (hi := none) (ev_var (i := 2) rfl) hy1 (eo_some ev_c) eo_none
    rw [cut_rest] at this
    exact this
  have memF : ∀ c ∈ [d1, d2, d3], FitI c ∧ noL c = true := fun c hc => by
    simp only [List.mem_cons, List.not_mem_nil, or_false] at hc
    rcases hc with rfl | rfl | rfl
    · exact ⟨f1, o1⟩
    · exact ⟨f2, o2⟩
    · exact ⟨f3, o3⟩
  have smf : sm 6 (.list (([d1, d2, d3].filter bad).map fun d => d)) ∧ nod (.list (([d1, d2, d3].filter bad).map fun d => d)) = true := by
    rw [List.map_id']
    constructor
    · exact sm_lst fun d hd => (memF d (List.mem_filter.mp hd).1).1.s
    · rw [nod]
      exact nodL_all fun d hd => (memF d (List.mem_filter.mp hd).1).1.n
  refine q_when (Z := Z) (b := !decide (([d1, d2, d3].filter bad) = [])) (by walk_at "w") (et_test (ev_is (ev_neDD (d := .list (([d1, d2, d3].filter bad).map fun d => d)) (EvN.da (en_lcTPX (xs := [v1, v2, v3]) [d1, d2, d3] bad (fun d => d) sl (fun _ _ _ h => h) rfl (by simp) (fun x => rfl) (fun c hc => (memF c hc).2) (fun i x c H3 e3 hi hc => ?_) (fun i x c H3 e3 hi hc _ => ?_))) (ev_lstD ea_nilD (by simp)) smf.2 (by simp [nod, nodL]) (smf.1.sh (by decide)) sh_nil) (by rw [eqv_nil']))) (fun hb2 H2 e2 => ?_) (fun hb2 H2 e2 => ?_)
  · obtain ⟨c', k1, k2⟩ := hds1.getV hi
    rw [hc] at k1
    cases k1
    have k2 := k2.mono e3
    exact et_or (et_not (et_B (ev_isInt (ev_var rfl) k2))) fun _ => et_B (ev_isBool (ev_var rfl) k2)
  · obtain ⟨c', k1, k2⟩ := hds1.getV hi
    rw [hc] at k1
    cases k1
    exact ev_da (ev_var rfl) (k2.mono e3)
  · refine s_ret (Z := Z) (by walk_at "w") (by walk_at "ev") fun w H4 e4 r3 => ?_
    subst r3
    refine no (e1.trans (e2.trans e4)) ?_
    rw [hlb, barB_no]
    rintro ⟨u, w', s', rfl, rfl, rfl⟩
    exact of_decide_eq_false ((Bool.not_eq_true' _).mp hb2) rfl
  · have hnil : [d1, d2, d3].filter bad = [] := by simpa using hb2
    have hint : ∀ c ∈ [d1, d2, d3], ∃ i, c = .int i := fun c hc => by
      have := (List.filter_eq_nil_iff.mp hnil) c hc
      exact isInt_iff.mp (by simpa [bad] using this)
    obtain ⟨u, rfl⟩ := hint d1 (by simp)
    obtain ⟨w', rfl⟩ := hint d2 (by simp)
    obtain ⟨s', rfl⟩ := hint d3 (by simp)
    have bu := f1.b u rfl
    have bv := f2.b w' rfl
    have bs := f3.b s' rfl
    cases y1
    cases y2
    cases y3
    have hy2 := hy1.mono e2
    have pp2 := pp.mono (e1.trans e2)
    obtain ⟨p1, p2, p3, _⟩ := id np
    let fv : Pt → Int := fun q => u * q.x + w' * q.y - s' * q.w
    refine q_asg (Z := Z) (R := DaR Z (.list ((L.map fv).map .int))) (by walk_at "w") ?_ fun vs' H3 e3 r3 => ?_
    · have hcc := en_lcTP (Z := Z) (K := K) (σ := [some v, some vp, some vv, none, none, none]) (H := H2) (vs := [4]) (j := 4) (t := tYes) (xs := xs) (tl := tVar 0)
        (te := tOp (rI0 fun i j => .int (i - j)) (tOp (rI0 fun i j => .int (i + j)) (tOp (rI CMulW fun i j => .int (i * j)) (tOp (rIxT K) (tVar 2) (tC (.int 1))) (tOp (rIxT K) (tVar 4) (tC (.int 0)))) (tOp (rI CMulW fun i j => .int (i * j)) (tOp (rIxT K) (tVar 2) (tC (.int 2))) (tOp (rIxT K) (tVar 4) (tC (.int 1))))) (tOp (rI CMulW fun i j => .int (i * j)) (tOp (rIxT K) (tVar 2) (tC (.int 3))) (tOp (rIxT K) (tVar 4) (tC (.int 2)))))
        L (fun _ => true) (fun q => .int (fv q)) (by walk_at "ev") (hx.mono (e1.trans e2)) hlen (by omega) (fun x => rfl) (fun q _ => by simp [noL]) (fun i x a H2 e2 _ _ => et_yes) (fun m x q H9 e9 hi hj _ => ?_)
      · rw [filter_yes] at hcc
        rw [List.map_map]
        exact hcc.da
      · obtain ⟨q', hq', hd'⟩ := getPt hxs hi
        rw [hj] at hq'
        cases hq'
        have pq := hd'.mono ((e1.trans e2).trans e9)
        obtain ⟨n1, n2, n3, n4⟩ := hL q (List.mem_of_getElem? hj)
        have hy9 := hy2.mono e9
        have c0 : CMulW u q.x := B.cmul bu n1 (by decide)
        have c1 : CMulW w' q.y := B.cmul bv n2 (by decide)
        have c2 : CMulW s' q.w := B.cmul bs n3 (by decide)
        refine Ev.imp (R := IsV (.int (fv q))) (ev_i0 (ev_i0 (ev_iC (ev_ixT (ev_var rfl) hy9 ev_c rfl) (ev_px (ev_var rfl) pq ev_c) c0) (ev_iC (ev_ixT (ev_var rfl) hy9 ev_c rfl) (ev_py (ev_var rfl) pq ev_c) c1)) (ev_iC (ev_ixT (ev_var rfl) hy9 ev_c rfl) (ev_pw (ev_var rfl) pq ev_c) c2)) fun w H10 e10 hw10 => ?_
        rw [hw10]
        exact .int _
    · have hy3 := hy2.mono e3
      have pp3 := pp2.mono e3
      have c0 : CMulW u p.x := B.cmul bu p1 (by decide)
      have c1 : CMulW w' p.y := B.cmul bv p2 (by decide)
      have c2 : CMulW s' p.w := B.cmul bs p3 (by decide)
      have evp : Ev Z (tOp (rI0 fun i j => .int (i - j)) (tOp (rI0 fun i j => .int (i + j)) (tOp (rI CMulW fun i j => .int (i * j)) (tOp (rIxT K) (tVar 2) (tC (.int 1))) (tOp (rIxT K) (tVar 1) (tC (.int 0)))) (tOp (rI CMulW fun i j => .int (i * j)) (tOp (rIxT K) (tVar 2) (tC (.int 2))) (tOp (rIxT K) (tVar 1) (tC (.int 1))))) (tOp (rI CMulW fun i j => .int (i * j)) (tOp (rIxT K) (tVar 2) (tC (.int 3))) (tOp (rIxT K) (tVar 1) (tC (.int 2))))) [some v, some vp, some vv, some vs', none, none] H3 (IsV (.int (fv p))) :=
        ev_i0 (ev_i0 (ev_iC (ev_ixT (ev_var rfl) hy3 ev_c rfl) (ev_px (ev_var rfl) pp3 ev_c) c0) (ev_iC (ev_ixT (ev_var rfl) hy3 ev_c rfl) (ev_py (ev_var rfl) pp3 ev_c) c1)) (ev_iC (ev_ixT (ev_var rfl) hy3 ev_c rfl) (ev_pw (ev_var rfl) pp3 ev_c) c2)
      show tRet _ _ [some v, some vp, some vv, some vs', none, none] H3
      -- max(sides) <= 0 < value at p
      refine s_ret (Z := Z) (R := IsV (.bl (barQ L p u w' s'))) (by walk_at "w") (fun H4 e4 Q' q' => ?_) fun w H4 e4 r4 => hq _ _ (e1.trans (e2.trans (e3.trans e4))) (by rw [r4, hlb]; rfl)
      refine ev_max (R := fun v _ => ∃ m, v = .int m ∧ m ∈ L.map fv ∧ ∀ y ∈ L.map fv, y ≤ m) (ns := L.map fv) (ev_da (ev_var rfl) r3) (by rw [List.length_map]; omega) (fun m H5 h1 h2 => ⟨m, rfl, h1, h2⟩) H4 e4 _ fun vm H5 e5 ⟨m, hm, hm1, hm2⟩ => ?_
      subst hm
      have hbq : barQ L p u w' s' = (decide (m ≤ 0) && decide (0 < fv p)) := by
        unfold barQ
        rw [Bool.eq_iff_iff, Bool.and_eq_true, Bool.and_eq_true, List.all_eq_true, decide_eq_true_iff, decide_eq_true_iff, decide_eq_true_iff]
        constructor
        · rintro ⟨h1, h2⟩
          obtain ⟨q, hq1, rfl⟩ := List.mem_map.mp hm1
          have := h1 q hq1
          simp at this
          refine ⟨?_, ?_⟩
          · show u * q.x + w' * q.y - s' * q.w ≤ 0; omega
          · show 0 < u * p.x + w' * p.y - s' * p.w; omega
        · rintro ⟨h1, h2⟩
          refine ⟨fun q hq1 => ?_, ?_⟩
          · have h3 : u * q.x + w' * q.y - s' * q.w ≤ m := hm2 _ (List.mem_map_of_mem hq1)
            simp
            omega
          · have h2' : 0 < u * p.x + w' * p.y - s' * p.w := h2
            omega
      refine ev_c (v := .int 0) (σ := [some v, some vp, some vv, some vs', none, none]) (H := H3) H5 (e4.trans e5) _ fun w6 H6 e6 h6 => ?_
      subst h6
      refine ⟨m, 0, rfl, rfl, decide (m ≤ 0), rfl, ?_⟩
      cases hm0 : decide (m ≤ 0) with
      | false =>
        refine q' _ _ (e5.trans e6) ?_
        rw [hbq, hm0]
        rfl
      | true =>
        show _
        refine evp H6 (e4.trans (e5.trans e6)) _ fun w7 H7 e7 h7 => ?_
        subst h7
        refine ⟨0, _, rfl, rfl, q' _ _ (e5.trans (e6.trans e7)) ?_⟩
        rw [hbq, hm0]
        rfl
section
variable {Z : Wd} {σ : L2.St} {H : Hp} {ta tb tc : TE} {E : XK}
theorem ev_l_is_barrier {v vp vv : V} {L : List Pt} {p : Pt} {d : PyData} (h1 : Ev Z ta σ H (IsV v)) (h2 : Ev Z tb σ H (IsV vp)) (h3 : Ev Z tc σ H (IsV vv)) (hd : Da Z H v (.tuple (L.map ptD))) (pp : P3 Z vp p H) (hL : ∀ q ∈ L, Nm q) (l1 : 1 ≤ L.length) (hl : L.length ≤ 40) (np : Nm p) (hv : Da Z H vv d) (hf : Fit d) (ho : FitO d) :
    Ev Z (tCall (spOf G_l_is_barrier) [] E (tCons ta (tCons tb (tCons tc tNil)))) σ H (IsV (.bl (lbB L p d))) :=
  ev_call (ea_cons h1 (ea_cons h2 (ea_cons h3 ea_nil))) fun H1 e => ⟨v, vp, vv, L, p, d, rfl, hd.mono e, pp.mono e, hL, l1, hl, np, hv.mono e, hf, ho, rfl⟩
end
end
end Hk
/-! ## F26 -/
namespace Hk
open PySem PySem.Spec PyProof.Rows L2
local macro_rules | `(tactic| walk_at "bd") => `(tactic| first
  | assumption
  | exact (show B 64 _ from by unfold B; decide)
  | (refine' B.mul ?b1 ?b2; (case b1 => walk_at "bd"); (case b2 => walk_at "bd"))
  | (refine' B.sub ?b1 ?b2; (case b1 => walk_at "bd"); (case b2 => walk_at "bd"))
  | (refine' B.add ?b1 ?b2; (case b1 => walk_at "bd"); (case b2 => walk_at "bd"))
  | (refine' B.neg ?b1; (case b1 => walk_at "bd")))
local macro_rules | `(tactic| walk_at "da") => `(tactic| first
  | assumption
  | exact Da.int _
  | exact Da.non
  | exact Da.bl _
  | exact Da.str _
  | ((with_reducible refine' P3.mono (by assumption) ?d1); (case d1 => walk_at "da"))
  | ((with_reducible refine' Ra.mono (by assumption) ?d1); (case d1 => walk_at "da"))
  | ((with_reducible refine' TuR.mono (by assumption) ?d1); (case d1 => walk_at "da"))
  | ((with_reducible refine' LiR.mono (by assumption) ?d1); (case d1 => walk_at "da"))
  | ((with_reducible refine' Da.mono (by assumption) ?d1); (case d1 => walk_at "da")))
local macro_rules | `(tactic| walk_at "xt") => `(tactic| first
  | assumption
  | (refine' Xt.trans ?x1 (by assumption); (case x1 => walk_at "xt")))
local macro_rules | `(tactic| walk_at "w") => `(tactic| first
  | assumption
  | exact Xt.w2 (by assumption)
  | exact Xt.w1 (by assumption))
local macro_rules | `(tactic| walk_at "side") => `(tactic| first
  | assumption
  | (refine' B.cmul ?b1 ?b2 ?b3; (case b1 => walk_at "bd"); (case b2 => walk_at "bd"); (case b3 => first | decide | omega))
  | (refine' B.cdiv ?b1 ?b2 ?b3; (case b1 => assumption); (case b2 => walk_at "bd"); (case b3 => first | decide | omega)))
local macro_rules | `(tactic| walk_at "ea") => `(tactic| first
  | with_reducible exact ea_nil
  | ((with_reducible refine' ea_cons ?p1 ?p2); (case p1 => walk_at "ev"); (case p2 => walk_at "ea")))
local macro_rules | `(tactic| walk_at "et") => `(tactic| first
  | ((with_reducible refine' et_and ?p1 ?p2); (case p1 => walk_at "et"); (case p2 => intro _; walk_at "et"))
  | ((with_reducible refine' et_or ?p1 ?p2); (case p1 => walk_at "et"); (case p2 => intro _; walk_at "et"))
  | ((with_reducible refine' et_not ?p1); (case p1 => walk_at "et"))
  | ((with_reducible refine' et_test ?p1); (case p1 => walk_at "ev"))
  | ((with_reducible refine' et_B ?p1); (case p1 => walk_at "ev")))
local macro_rules | `(tactic| walk_at "ev") => `(tactic| first
  | with_reducible exact ev_c
  | ((with_reducible refine' ev_var ?v1); (case v1 => exact rfl))
  | ((with_reducible refine' ev_px ?p1 ?p2 ?p3); (case p1 => walk_at "ev"); (case p2 => walk_at "da"); (case p3 => with_reducible exact ev_c))
  | ((with_reducible refine' ev_py ?p1 ?p2 ?p3); (case p1 => walk_at "ev"); (case p2 => walk_at "da"); (case p3 => with_reducible exact ev_c))
  | ((with_reducible refine' ev_pw ?p1 ?p2 ?p3); (case p1 => walk_at "ev"); (case p2 => walk_at "da"); (case p3 => with_reducible exact ev_c))
  | ((with_reducible refine' ev_ixT ?p1 ?p2 ?p3 ?p4); (case p1 => walk_at "ev"); (case p2 => walk_at "da"); (case p3 => walk_at "ev"); (case p4 => first | exact rfl | assumption))
  | ((with_reducible refine' ev_ixL ?p1 ?p2 ?p3 ?p4); (case p1 => walk_at "ev"); (case p2 => walk_at "da"); (case p3 => walk_at "ev"); (case p4 => first | exact rfl | assumption))
  | ((with_reducible refine' ev_i0 ?p1 ?p2); (case p1 => walk_at "ev"); (case p2 => walk_at "ev"))
  | ((with_reducible refine' ev_iC ?p1 ?p2 ?p3); (case p1 => walk_at "ev"); (case p2 => walk_at "ev"); (case p3 => walk_at "side"))
  | ((with_reducible refine' ev_neg ?p1); (case p1 => walk_at "ev"))
  | ((with_reducible refine' ev_eq ?p1 ?p2 ?p3); (case p1 => walk_at "ev"); (case p2 => walk_at "ev"); (case p3 => exact rfl))
  | ((with_reducible refine' ev_ne ?p1 ?p2 ?p3); (case p1 => walk_at "ev"); (case p2 => walk_at "ev"); (case p3 => exact rfl))
  | ((with_reducible refine' ev_andV ?p1 ?p2); (case p1 => walk_at "ev"); (case p2 => intro _; walk_at "ev"))
  | ((with_reducible refine' ev_orV ?p1 ?p2); (case p1 => walk_at "ev"); (case p2 => intro _; walk_at "ev"))
  | ((with_reducible refine' ev_notV ?p1); (case p1 => walk_at "ev"))
  | ((with_reducible refine' ev_subB ?p1 ?p2); (case p1 => walk_at "ev"); (case p2 => walk_at "ev"))
  | ((with_reducible refine' ev_chI ?p1 ?p2 ?p3); (case p1 => walk_at "ev"); (case p2 => walk_at "ev"); (case p3 => walk_at "ev"))
  | ((with_reducible refine' ev_isInt ?p1 ?p2); (case p1 => walk_at "ev"); (case p2 => walk_at "da"))
  | ((with_reducible refine' ev_isBool ?p1 ?p2); (case p1 => walk_at "ev"); (case p2 => walk_at "da"))
  | ((with_reducible refine' ev_isStr ?p1 ?p2); (case p1 => walk_at "ev"); (case p2 => walk_at "da"))
  | ((with_reducible refine' ev_isTup ?p1 ?p2); (case p1 => walk_at "ev"); (case p2 => walk_at "da"))
  | ((with_reducible refine' ev_isLst ?p1 ?p2); (case p1 => walk_at "ev"); (case p2 => walk_at "da"))
  | ((with_reducible refine' ev_isTL ?p1 ?p2); (case p1 => walk_at "ev"); (case p2 => walk_at "da"))
  | ((with_reducible refine' ev_lenT ?p1 ?p2); (case p1 => walk_at "ev"); (case p2 => walk_at "da"))
  | ((with_reducible refine' ev_lenL ?p1 ?p2); (case p1 => walk_at "ev"); (case p2 => walk_at "da"))
  | ((with_reducible refine' ev_abs ?p1); (case p1 => walk_at "ev"))
  | ((with_reducible refine' ev_min2 ?p1 ?p2); (case p1 => walk_at "ev"); (case p2 => walk_at "ev"))
  | ((with_reducible refine' ev_int1 ?p1); (case p1 => walk_at "ev"))
  | ((with_reducible refine' ev_isN ?p1); (case p1 => walk_at "ev"))
  | ((with_reducible refine' ev_notN ?p1); (case p1 => walk_at "ev"))
  | ((with_reducible refine' ev_sign ?p1); (case p1 => walk_at "ev"))
  | ((with_reducible refine' ev_gcd ?p1 ?p2); (case p1 => walk_at "ev"); (case p2 => walk_at "ev"))
  | ((with_reducible refine' ev_is_in ?p1 ?p2 ?p3 ?p4); (case p1 => walk_at "ev"); (case p2 => walk_at "da"); (case p3 => walk_at "ev"); (case p4 => walk_at "ev"))
  | ((with_reducible refine' ev_doubled ?p1 ?p2 ?p3 ?p4 ?p5 ?p6 ?p7 ?p8 ?p9); (case p1 => walk_at "ev"); (case p2 => walk_at "ev"); (case p3 => walk_at "ev"); (case p4 => walk_at "da"); (case p5 => walk_at "da"); (case p6 => walk_at "da"); (case p7 => assumption); (case p8 => assumption); (case p9 => assumption))
  | ((with_reducible refine' ev_order_of ?p1 ?p2 ?p3 ?p4 ?p5 ?p6); (case p1 => walk_at "ev"); (case p2 => walk_at "ev"); (case p3 => walk_at "da"); (case p4 => walk_at "da"); (case p5 => assumption); (case p6 => assumption))
  | ((with_reducible refine' ev_turn_of ?p1 ?p2 ?p3 ?p4 ?p5 ?p6 ?p7 ?p8 ?p9); (case p1 => walk_at "ev"); (case p2 => walk_at "ev"); (case p3 => walk_at "ev"); (case p4 => walk_at "da"); (case p5 => walk_at "da"); (case p6 => walk_at "da"); (case p7 => assumption); (case p8 => assumption); (case p9 => assumption))
  | ((with_reducible refine' ev_is_between ?p1 ?p2 ?p3 ?p4 ?p5 ?p6 ?p7 ?p8 ?p9); (case p1 => walk_at "ev"); (case p2 => walk_at "ev"); (case p3 => walk_at "ev"); (case p4 => walk_at "da"); (case p5 => walk_at "da"); (case p6 => walk_at "da"); (case p7 => assumption); (case p8 => assumption); (case p9 => assumption)))
section
variable {P : Program} {w : World} {K : PySem.W.Frag} {mg : Str → Option Value} {base : Heap}
theorem rat_own {n m : Int} (hm : 0 < m) : raD (Rat.divInt n m) = .tuple [.int n, .int m] ↔ gcdI n m = 1 := by
  constructor
  · intro h
    unfold raD at h
    simp only [PyData.tuple.injEq, List.cons.injEq, PyData.int.injEq, and_true] at h
    have := rat_gcd (Rat.divInt n m)
    rw [h.1, h.2] at this
    exact this
  · intro h
    obtain ⟨e1, e2⟩ := own_ratio hm h
    unfold raD
    rw [e1, e2]
theorem ints_dec : ∀ {cs : List PyData}, (∀ c ∈ cs, (!isI c || isB c) = false) → ∃ ns : List Int, cs = ns.map PyData.int
  | [], _ => ⟨[], rfl⟩
  | c :: cs, h => by
    obtain ⟨ns, rfl⟩ := ints_dec (cs := cs) fun c hc => h c (List.mem_cons_of_mem _ hc)
    obtain ⟨i, rfl⟩ := isInt_iff.mp (h c (by simp))
    exact ⟨i :: ns, rfl⟩
theorem inC_int {n : Nat} {c : PyData} (h : inC n c = true) : (!isI c || isB c) = false := by
  unfold inC isIn at h
  split at h
  · rfl
  · cases h
theorem eqv_ii (a b c d : Int) : PyData.eqv (.tuple [.int a, .int b]) (.tuple [.int c, .int d]) = (decide (a = c) && decide (b = d)) := by
  have e : PyData.eqv (.tuple [.int a, .int b]) (.tuple [.int c, .int d]) = ((a == c) && ((b == d) && true)) := by simp only [PyData.eqv, PyData.eqvAll]
  rw [e, Bool.and_true]
  rfl
def posI (d : PyData) : Bool := match d with
  | .int i => decide (0 < i)
  | _ => false
theorem posW_raD {q : Rat} (h : 0 < q) : posW (raD q) = true := by
  show (decide ((0 : Int) < (q.den : Int)) && decide (gcdI q.num (q.den : Int) = 1) && decide (0 < q.num)) = true
  rw [decide_eq_true (den_pos q), decide_eq_true (rat_gcd q), decide_eq_true ((num_pos_iff q).mp h)]
  rfl
def G_l_is_mixture : Gv := fun Z vs H R => ∃ v vp vv L p d, vs = [v, vp, vv] ∧ Da Z H v (.tuple (L.map ptD)) ∧ P3 Z vp p H ∧ (∀ q ∈ L, Nm q) ∧ 1 ≤ L.length ∧ L.length ≤ 40 ∧ Nm p ∧ Da Z H vv d ∧ Fit d ∧ R = IsV (.bl (lmB L p d))
theorem ok_l_is_mixture (T : Tx K mg) : FnOk P w K mg base CX0 9 T.f_l_is_mixture T.d_l_is_mixture ["_law_points_here", "_law_p", "_law_value"] (spOf G_l_is_mixture) := by
  refine T.F_l_is_mixture.ok sc_l_is_mixture (fun vs H Q E h => ?_) (fun cdv A outer s H vs Q E hr h => ?_)
  · obtain ⟨Z, R, _, ⟨v, vp, vv, L, p, d, rfl, _⟩, _⟩ := h
    rfl
  obtain ⟨Z, R, hw, ⟨v, vp, vv, L, p, d, rfl, hd, pp, hL, l1, l2, np, hv, hf, rfl⟩, hq⟩ := h
  refine ⟨_, (pss_cons (ps_if (PW.pt (pw_or (pt_not (pt_val (pe_callB call_isi (by rfl) T.z_isinstance (by decide +kernel) (pa_cons (pv 2) (pa_cons (pe_bltn (v := .ty "tuple") (u := .type "tuple") (by rfl) T.z_tuple (by decide +kernel) rfl) pa_nil))))) (pw_or (pt_cmpR op_ne (pe_callB call_len_seq (by rfl) T.z_len (by decide +kernel) (pa_cons (pv 2) pa_nil)) pe_int (nomark _)) (pw_or1 (pt_not (pt_val (pe_call (ok_l_alike T) (hr.mono (by decide)) (by rfl) T.g_l_alike T.F_l_alike.kp T.b_l_alike .nil pass0 (pa_cons (pe_ix ix_tup (pv 2) pe_int (fun _ _ => rfl)) (pa_cons pe_str pa_nil)))))))))
  (pss_one (ps_ret pe_bl))
  pss_nil)
  (pss_cons (ps_par (i := 3) (j := 4) rfl sc_l_is_mixture.nd rfl rfl (by decide) rfl rfl (pa_cons (pe_ix ix_tup (pv 2) pe_int (fun _ _ => rfl)) (pa_cons (pe_ix ix_tup (pv 2) pe_int (fun _ _ => rfl)) pa_nil)) (by rfl))
  (pss_cons (ps_if (PW.pt (pw_or (pt_not (pt_val (pe_callB call_isi (by rfl) T.z_isinstance (by decide +kernel) (pa_cons (pv 3) (pa_cons (pe_bltn (v := .ty "tuple") (u := .type "tuple") (by rfl) T.z_tuple (by decide +kernel) rfl) pa_nil))))) (pw_or (pt_not (pt_val (pe_callB call_isi (by rfl) T.z_isinstance (by decide +kernel) (pa_cons (pv 4) (pa_cons (pe_bltn (v := .ty "tuple") (u := .type "tuple") (by rfl) T.z_tuple (by decide +kernel) rfl) pa_nil))))) (pw_or1 (pt_cmpR op_ne (pe_callB call_len_seq (by rfl) T.z_len (by decide +kernel) (pa_cons (pv 3) pa_nil)) (pe_callB call_len_seq (by rfl) T.z_len (by decide +kernel) (pa_cons (pv 4) pa_nil)) (nomark _))))))
  (pss_one (ps_ret pe_bl))
  pss_nil)
  (pss_cons (ps_if (PW.pt (pw_or (pt_cmpR op_gt (pe_callB call_len_seq (by rfl) T.z_len (by decide +kernel) (pa_cons (pv 3) pa_nil)) pe_int (nomark _)) (pw_or1 (pt_cmpR (op_neD hr.units) (pe_lc (own := [("_law_k", 8)]) (g := gName 8) rfl sc_l_is_mixture.nd (pi_tup (pv 3)) (blkOk_by (own := [("_law_k", 8)]) (N := nm_l_is_mixture) (sc := defScope s_l_is_mixture) (by decide +kernel)) (fun _ _ _ _ _ => pg_name (i := 8) sc_l_is_mixture.nd rfl (Or.inl rfl)) (fun _ _ _ _ _ => pts_one (PW.pt (pw_or (pt_not (pt_val (pe_callB (call_isiK (K := K) rfl) (by rfl) T.z_isinstance (by decide +kernel) (pa_cons (pv 8) (pa_cons (pe_bltn (v := .ty "int") (u := .type "int") (by rfl) T.z_int (by decide +kernel) rfl) pa_nil))))) (pw_or1 (pt_val (pe_callB (call_isiK (K := K) rfl) (by rfl) T.z_isinstance (by decide +kernel) (pa_cons (pv 8) (pa_cons (pe_bltn (v := .ty "bool") (u := .type "bool") (by rfl) T.z_bool (by decide +kernel) rfl) pa_nil)))))))) (fun _ _ _ _ _ => (pv 8))) (pe_lst pa_nil) (nomark _)))))
  (pss_one (ps_ret pe_bl))
  pss_nil)
  (pss_cons (ps_if (PW.pt (pw_or (pt_cmpR (op_neD hr.units) (pe_callTy call_list_of (by rfl) T.z_list (by decide +kernel) (pa_cons (pv 3) pa_nil)) (pe_callB (cr_sortedSet rfl) (by rfl) T.z_sorted (by decide +kernel) (pa_cons (pe_callTy (call_setTI rfl) (by rfl) T.z_set (by decide +kernel) (pa_cons (pv 3) pa_nil)) pa_nil)) (nomark _)) (pw_or1 (pt_cmpR (op_neD hr.units) (pe_lc (own := [("_law_k", 8)]) (g := gName 8) rfl sc_l_is_mixture.nd (pi_tup (pv 3)) (blkOk_by (own := [("_law_k", 8)]) (N := nm_l_is_mixture) (sc := defScope s_l_is_mixture) (by decide +kernel)) (fun _ _ _ _ _ => pg_name (i := 8) sc_l_is_mixture.nd rfl (Or.inl rfl)) (fun _ _ _ _ _ => pts_one (pt_not (pt_chain op_le op_lt pe_int (pv 8) (pe_callB (call_lenK (K := K) rfl) (by rfl) T.z_len (by decide +kernel) (pa_cons (pv 0) pa_nil))))) (fun _ _ _ _ _ => (pv 8))) (pe_lst pa_nil) (nomark _)))))
  (pss_one (ps_ret pe_bl))
  pss_nil)
  (pss_cons (ps_asg (pe_tup (pa_cons (pe_tup (pa_cons pe_int (pa_cons pe_int pa_nil))) (pa_cons (pe_tup (pa_cons pe_int (pa_cons pe_int pa_nil))) (pa_cons (pe_tup (pa_cons pe_int (pa_cons pe_int pa_nil))) pa_nil)))) (pg_tup rfl (pgs_cons (pg_name (i := 5) sc_l_is_mixture.nd rfl (Or.inl rfl)) (pgs_cons (pg_name (i := 6) sc_l_is_mixture.nd rfl (Or.inl rfl)) (pgs_cons (pg_name (i := 7) sc_l_is_mixture.nd rfl (Or.inl rfl)) pgs_nil)))))
  (pss_cons (ps_for PassesOwn.never rfl (pi_range1 (by rfl) T.z_range (pa_cons (pe_callB call_len_seq (by rfl) T.z_len (by decide +kernel) (pa_cons (pv 3) pa_nil)) pa_nil)) (pg_name (i := 8) sc_l_is_mixture.nd rfl (Or.inl rfl))
  (pss_cons (ps_par (i := 9) (j := 10) rfl sc_l_is_mixture.nd rfl rfl (by decide) rfl rfl (pa_cons (pe_ix ix_tup (pv 4) (pv 8) (fun _ _ => rfl)) (pa_cons (pe_ix ix_tup (pv 0) (pe_ix ix_tup (pv 3) (pv 8) (fun _ _ => rfl)) (fun _ _ => rfl)) pa_nil)) (by rfl))
    (pss_cons (ps_if (PW.pt (pw_or (pt_not (pt_val (pe_callB call_isi (by rfl) T.z_isinstance (by decide +kernel) (pa_cons (pv 9) (pa_cons (pe_bltn (v := .ty "tuple") (u := .type "tuple") (by rfl) T.z_tuple (by decide +kernel) rfl) pa_nil))))) (pw_or1 (pt_cmpR op_ne (pe_callB call_len_seq (by rfl) T.z_len (by decide +kernel) (pa_cons (pv 9) pa_nil)) pe_int (nomark _)))))
    (pss_one (ps_ret pe_bl))
    pss_nil)
    (pss_cons (ps_if (pt_cmpR (op_neD hr.units) (pe_lc (own := [("_law_n", 11)]) (g := gName 11) rfl sc_l_is_mixture.nd (pi_tup (pv 9)) (blkOk_by (own := [("_law_n", 11)]) (N := nm_l_is_mixture) (sc := defScope s_l_is_mixture) (by decide +kernel)) (fun _ _ _ _ _ => pg_name (i := 11) sc_l_is_mixture.nd rfl (Or.inl rfl)) (fun _ _ _ _ _ => pts_one (PW.pt (pw_or (pt_not (pt_val (pe_callB (call_isiK (K := K) rfl) (by rfl) T.z_isinstance (by decide +kernel) (pa_cons (pv 11) (pa_cons (pe_bltn (v := .ty "int") (u := .type "int") (by rfl) T.z_int (by decide +kernel) rfl) pa_nil))))) (pw_or (pt_val (pe_callB (call_isiK (K := K) rfl) (by rfl) T.z_isinstance (by decide +kernel) (pa_cons (pv 11) (pa_cons (pe_bltn (v := .ty "bool") (u := .type "bool") (by rfl) T.z_bool (by decide +kernel) rfl) pa_nil)))) (pw_or1 (pt_cmpR op_le (pv 11) pe_int (nomark _))))))) (fun _ _ _ _ _ => (pv 11))) (pe_lst pa_nil) (nomark _))
    (pss_one (ps_ret pe_bl))
    pss_nil)
    (pss_cons (ps_if (pt_cmpR (op_neD hr.units) (pe_call (ok_l_ratio T) (hr.mono (by decide)) (by rfl) T.g_l_ratio T.F_l_ratio.kp T.b_l_ratio .nil pass0 (pa_cons (pe_ix ix_tup (pv 9) pe_int (fun _ _ => rfl)) (pa_cons (pe_ix ix_tup (pv 9) pe_int (fun _ _ => rfl)) pa_nil))) (pv 9) (nomark _))
    (pss_one (ps_ret pe_bl))
    pss_nil)
    (pss_cons (ps_set (i := 5) sc_l_is_mixture.nd rfl (Or.inl rfl) (pe_call (ok_l_plus T) (hr.mono (by decide)) (by rfl) T.g_l_plus T.F_l_plus.kp T.b_l_plus .nil pass0 (pa_cons (pv 5) (pa_cons (pv 9) pa_nil))))
    (pss_one (ps_par (i := 6) (j := 7) rfl sc_l_is_mixture.nd rfl rfl (by decide) rfl rfl (pa_cons (pe_call (ok_l_plus T) (hr.mono (by decide)) (by rfl) T.g_l_plus T.F_l_plus.kp T.b_l_plus .nil pass0 (pa_cons (pv 6) (pa_cons (pe_call (ok_l_times T) (hr.mono (by decide)) (by rfl) T.g_l_times T.F_l_times.kp T.b_l_times .nil pass0 (pa_cons (pv 9) (pa_cons (pe_tup (pa_cons (pe_ix ix_tup (pv 10) pe_int (fun _ _ => rfl)) (pa_cons (pe_ix ix_tup (pv 10) pe_int (fun _ _ => rfl)) pa_nil))) pa_nil))) pa_nil))) (pa_cons (pe_call (ok_l_plus T) (hr.mono (by decide)) (by rfl) T.g_l_plus T.F_l_plus.kp T.b_l_plus .nil pass0 (pa_cons (pv 7) (pa_cons (pe_call (ok_l_times T) (hr.mono (by decide)) (by rfl) T.g_l_times T.F_l_times.kp T.b_l_times .nil pass0 (pa_cons (pv 9) (pa_cons (pe_tup (pa_cons (pe_ix ix_tup (pv 10) pe_int (fun _ _ => rfl)) (pa_cons (pe_ix ix_tup (pv 10) pe_int (fun _ _ => rfl)) pa_nil))) pa_nil))) pa_nil))) pa_nil)) (by rfl)))))))))
  (pss_one (ps_ret (pe_and (pe_cmpR (op_eqD hr.units) (pv 5) (pe_tup (pa_cons pe_int (pa_cons pe_int pa_nil))) (nomark _)) (pe_and (pe_cmpR (op_eqD hr.units) (pv 6) (pe_call (ok_l_ratio T) (hr.mono (by decide)) (by rfl) T.g_l_ratio T.F_l_ratio.kp T.b_l_ratio .nil pass0 (pa_cons (pe_ix ix_tup (pv 1) pe_int (fun _ _ => rfl)) (pa_cons (pe_ix ix_tup (pv 1) pe_int (fun _ _ => rfl)) pa_nil))) (nomark _)) (pe_one (pe_cmpR (op_eqD hr.units) (pv 7) (pe_call (ok_l_ratio T) (hr.mono (by decide)) (by rfl) T.g_l_ratio T.F_l_ratio.kp T.b_l_ratio .nil pass0 (pa_cons (pe_ix ix_tup (pv 1) pe_int (fun _ _ => rfl)) (pa_cons (pe_ix ix_tup (pv 1) pe_int (fun _ _ => rfl)) pa_nil))) (nomark _)))))))))))))), ?_⟩
  rw [show L2.start nm_l_is_mixture [v, vp, vv] = [some v, some vp, some vv, none, none, none, none, none, none, none, none, none] from rfl]
  obtain ⟨xs, hx, hxs⟩ := hd.tupE
  have hlen : xs.length = L.length := by rw [hxs.length, List.length_map]
  have no : ∀ {H5}, Xt Z H H5 → lmB L p d = false → Q (.bl false) H5 := fun {H5} e5 h => hq _ _ e5 (by rw [h])
  by_cases hT : isT d = false
  · refine q_when (Z := Z) (b := true) (by walk_at "w") (et_is (a := !isT d || (false || false)) (et_or (et_not (et_B (by walk_at "ev"))) fun h => by rw [hT] at h; cases h) (by rw [hT]; rfl)) (fun _ H3 e3 => ?_) (fun h => by cases h)
    refine s_ret (Z := Z) (by walk_at "w") (by walk_at "ev") fun w H4 e4 r3 => ?_
    subst r3
    refine no (by walk_at "xt") ?_
    unfold lmB
    split
    · cases hT
    · rfl
  obtain ⟨ds, rfl⟩ : ∃ ds, d = .tuple ds := by
    cases d <;> simp [isT] at hT
    exact ⟨_, rfl⟩
  have hfd := hf ds rfl
  obtain ⟨ys, hy, hys⟩ := hv.tupE
  have yl := hys.length
  by_cases h3 : ds.length ≠ 3
  · refine q_when (Z := Z) (b := true) (by walk_at "w") (et_is (a := !isT (.tuple ds) || ((!decide (V.int (ys.length : Int) = V.int 3)) || false)) (et_or (et_not (et_B (by walk_at "ev"))) fun _ => et_or (et_B (by walk_at "ev")) fun h => ?_) ?_) (fun _ H3 e3 => ?_) (fun h => by cases h)
    · exfalso
      simp at h
      omega
    · have : ¬ (ys.length : Int) = 3 := by omega
      simp [isT, this]
    · refine s_ret (Z := Z) (by walk_at "w") (by walk_at "ev") fun w H4 e4 r3 => ?_
      subst r3
      exact no (by walk_at "xt") (lmB_len h3)
  have h3 : ds.length = 3 := by omega
  obtain ⟨d0, d1, d2, rfl⟩ : ∃ d0 d1 d2, ds = [d0, d1, d2] := by
    match ds, h3 with
    | [a, b, c], _ => exact ⟨a, b, c, rfl⟩
  have f0 := hfd d0 (by simp)
  have f1 := hfd d1 (by simp)
  have f2 := hfd d2 (by simp)
  obtain ⟨v0, vc, vw, rfl, y0, y1, y2⟩ := da3 hys
  refine q_when (Z := Z) (b := !isStrC d0 sIn) (by walk_at "w") (et_is (a := !isT (.tuple [d0, d1, d2]) || ((!decide (V.int 3 = V.int 3)) || !isStrC d0 sIn)) (et_or (et_not (et_B (by walk_at "ev"))) fun _ => et_or (et_B (ev_ne (ev_is (ev_lenT (ev_var rfl) hy) rfl) ev_c rfl)) fun _ => et_not (et_test (ev_alk_str (ev_ixT (ev_var rfl) hy ev_c rfl) ev_c y0 f0.n (f0.s.mono (by decide)) (by decide +kernel)))) (by simp [isT])) (fun hb H1 e1 => ?_) (fun hb H1 e1 => ?_)
  · refine s_ret (Z := Z) (by walk_at "w") (by walk_at "ev") fun w H4 e4 r3 => ?_
    subst r3
    refine no (by walk_at "xt") ?_
    have : isStrC d0 sIn = false := by simpa using hb
    show (isStrC d0 sIn && _) = false
    rw [this]
    rfl
  have hs0 : isStrC d0 sIn = true := by simpa using hb
  have hlm : lmB L p (.tuple [d0, d1, d2]) = mixB L p d1 d2 := by
    show (isStrC d0 sIn && _) = _
    rw [hs0, Bool.true_and]
  have no : ∀ {H5}, Xt Z H H5 → mixB L p d1 d2 = false → Q (.bl false) H5 := fun {H5} e5 h => no e5 (by rw [hlm, h])
  have hy1 := hy.mono e1
  refine q_par (Z := Z) (RA := fun us _ => us = [vc, vw]) (by walk_at "w") (ea_cons (ev_ixT (ev_var rfl) hy1 ev_c rfl) (ea_cons (ev_ixT (ev_var rfl) hy1 ev_c rfl) ea_nil)) fun us H2 e2 hus => ⟨_, _, hus, ?_⟩
  show tSeq _ _ _ [some v, some vp, some vv, some vc, some vw, none, none, none, none, none, none, none] H2
  have e12 := e1.trans e2
  have y1 := y1.mono e12
  have y2 := y2.mono e12
  by_cases hT : (isT d1 && isT d2) = false
  · refine q_when (Z := Z) (b := true) (by walk_at "w") (et_is (a := !isT d1 || (!isT d2 || false)) (et_or (et_not (et_B (by walk_at "ev"))) fun h1 => et_or (et_not (et_B (by walk_at "ev"))) fun h2 => ?_) ?_) (fun _ H3 e3 => ?_) (fun h => by cases h)
    · exfalso
      simp at h1 h2
      simp [h1, h2] at hT
    · revert hT
      cases isT d1 <;> cases isT d2 <;> simp
    · refine s_ret (Z := Z) (by walk_at "w") (by walk_at "ev") fun w H4 e4 r3 => ?_
      subst r3
      refine no (e12.trans (e3.trans e4)) ?_
      unfold mixB
      split
      · cases hT
      · rfl
  have hT : (isT d1 && isT d2) = true := by simpa using hT
  obtain ⟨cs, rfl⟩ : ∃ cs, d1 = .tuple cs := by
    cases d1 <;> simp [isT] at hT
    exact ⟨_, rfl⟩
  obtain ⟨ws, rfl⟩ : ∃ ws, d2 = .tuple ws := by
    cases d2 <;> simp [isT] at hT
    exact ⟨_, rfl⟩
  have no : ∀ {H5}, Xt Z H H5 → mixC L p cs ws = false → Q (.bl false) H5 := no
  have fc : ∀ c ∈ cs, FitJ c := f1.t cs rfl
  have fw : ∀ c ∈ ws, FitJ c := f2.t ws rfl
  obtain ⟨us', hu, hus'⟩ := y1.tupE
  obtain ⟨ts, ht, hts⟩ := y2.tupE
  have ul := hus'.length
  have tl := hts.length
  refine q_when (Z := Z) (b := decide (us'.length ≠ ts.length)) (by walk_at "w") (et_is (et_or (et_not (et_B (by walk_at "ev"))) fun _ => et_or (et_not (et_B (by walk_at "ev"))) fun _ => et_test (by walk_at "ev")) ?_) (fun hb H3 e3 => ?_) (fun hb H3 e3 => ?_)
  · by_cases h : us'.length = ts.length
    · simp [isT, h]
    · have h2 : ¬ (us'.length : Int) = (ts.length : Int) := by omega
      simp [isT, h, h2]
  · refine s_ret (Z := Z) (by walk_at "w") (by walk_at "ev") fun w H4 e4 r3 => ?_
    subst r3
    refine no (e12.trans (e3.trans e4)) ?_
    have : ¬ cs.length = ws.length := by have := of_decide_eq_true hb; omega
    unfold mixC
    rw [decide_eq_false this]
    rfl
  have hcw : cs.length = ws.length := by
    have := of_decide_eq_false hb
    omega
  have hu3 := hu.mono e3
  have e13 := e12.trans e3
  by_cases h13 : ¬ cs.length ≤ 3
  · refine q_when (Z := Z) (b := true) (by walk_at "w") (et_is (a := decide ((3 : Int) < (us'.length : Int)) || false) (et_or (et_test (by walk_at "ev")) fun h1 => ?_) ?_) (fun _ H4 e4 => ?_) (fun h => by cases h)
    · exfalso
      have := of_decide_eq_false h1
      omega
    · rw [decide_eq_true (by omega)]
      rfl
    · refine s_ret (Z := Z) (by walk_at "w") (by walk_at "ev") fun w H5 e5 r3 => ?_
      subst r3
      refine no (e13.trans (e4.trans e5)) ?_
      unfold mixC
      rw [decide_eq_false (show ¬ (1 ≤ cs.length ∧ cs.length ≤ 3) from fun h => h13 h.2), Bool.false_and, Bool.and_false]
  have h13 : cs.length ≤ 3 := Classical.not_not.mp h13
  let bad : PyData → Bool := fun c => !isI c || isB c
  refine q_when (Z := Z) (b := !cs.all fun c => !bad c) (by walk_at "w") (et_is (a := decide ((3 : Int) < (us'.length : Int)) || !cs.all fun c => !bad c) (et_or (et_test (by walk_at "ev")) fun _ => et_test (ev_is (ev_neDD (d := .list ((cs.filter fun c => !!bad c).map fun d => d)) (EvN.da (en_lcTP (xs := us') cs (fun c => !!bad c) (fun d => d) (by walk_at "ev") hu3 ul (by omega) (fun x => rfl) (fun c hc => (fc c hc).l) (fun i x c H4 e4 hi hc => ?_) (fun i x c H4 e4 hi hc _ => ?_))) (ev_lstD ea_nilD (by simp)) (sm_filter _ fc).2 (by simp [nod, nodL]) ((sm_filter _ fc).1.sh (by decide)) sh_nil) ?_)) ?_) (fun hb H4 e4 => ?_) (fun hb H4 e4 => ?_)
  · obtain ⟨c', k1, k2⟩ := hus'.getV hi
    rw [hc] at k1
    cases k1
    have k2 := k2.mono (e3.trans e4)
    exact et_is (et_or (et_not (et_B (ev_isInt (ev_var rfl) k2))) fun _ => et_B (ev_isBool (ev_var rfl) k2)) (by simp [bad])
  · obtain ⟨c', k1, k2⟩ := hus'.getV hi
    rw [hc] at k1
    cases k1
    exact ev_da (ev_var rfl) (k2.mono (e3.trans e4))
  · rw [eqv_nil', filter_nil_all cs fun c => !bad c]
  · rw [decide_eq_false (by omega), Bool.false_or]
  · refine s_ret (Z := Z) (by walk_at "w") (by walk_at "ev") fun w H5 e5 r3 => ?_
    subst r3
    refine no (e13.trans (e4.trans e5)) ?_
    have hn : ¬ cs.all (inC L.length) = true := fun h => by
      have h2 : (cs.all fun c => !bad c) = true := List.all_eq_true.mpr fun c hc => by
        have := inC_int (List.all_eq_true.mp h c hc)
        show (!(!isI c || isB c)) = true
        rw [this]; rfl
      rw [h2] at hb
      cases hb
    unfold mixC
    rw [show cs.all (inC L.length) = false by simpa using hn]
    simp
  have hints : (cs.all fun c => !bad c) = true := by simpa using hb
  obtain ⟨nsI, hnsI⟩ := ints_dec (cs := cs) fun c hc => by
    have := List.all_eq_true.mp hints c hc
    simpa [bad] using this
  subst hnsI
  rw [List.length_map] at hcw h13
  have e14 := e13.trans e4
  have hu4 := hu3.mono e4
  have ht4 := ht.mono (e3.trans e4)
  have y14 := y1.mono (e3.trans e4)
  have intOfs : (nsI.map PyData.int).map intOf = nsI := by
    rw [List.map_map]
    exact List.map_id nsI
  have hu5 : us' = nsI.map V.int := ints_daL hus'
  have dc : Ev Z (tVar 3) [some v, some vp, some vv, some vc, some vw, none, none, none, none, none, none, none] H4 (DaR Z (.tuple (nsI.map PyData.int))) := ev_da (ev_var rfl) y14
  have hinC : ∀ i : Int, inC L.length (.int i) = (decide (0 ≤ i) && decide (i < (L.length : Int))) := fun i => by
    show (decide (0 ≤ i) && decide (i ≤ (L.length : Int) - 1)) = _
    congr 1
    exact decide_eq_decide.mpr (by omega)
  refine q_when (Z := Z) (b := !decide (nsI.Pairwise (· < ·)) || !(nsI.map PyData.int).all (inC L.length)) (by walk_at "w") (et_or (et_test (ev_unsorted dc dc (by omega))) fun _ => et_test (ev_is (ev_neDD (d := .list (((nsI.map PyData.int).filter fun c => !inC L.length c).map fun d => d)) (EvN.da (en_lcTP (xs := us') (nsI.map PyData.int) (fun c => !inC L.length c) (fun d => d) (ev_var rfl) hu4 ul (by rw [List.length_map]; omega) (fun x => rfl) (fun c hc => (fc c hc).l) (fun i x c H5 e5 hi hc => ?_) (fun i x c H5 e5 hi hc _ => ?_))) (ev_lstD ea_nilD (by simp)) (sm_filter _ fc).2 (by simp [nod, nodL]) ((sm_filter _ fc).1.sh (by decide)) sh_nil) ?_)) (fun hb H5 e5 => ?_) (fun hb H5 e5 => ?_)
  · rw [hu5, List.getElem?_map] at hi
    rw [List.getElem?_map] at hc
    cases hg : nsI[i]? with
    | none => rw [hg] at hi; cases hi
    | some k =>
      rw [hg] at hi hc
      cases hi
      cases hc
      have hx5 := hx.mono (e14.trans e5)
      refine et_is (et_not (et_test (ev_chI ev_c (ev_var rfl) (ev_lenT (ev_var rfl) hx5)))) ?_
      show (!(decide (0 ≤ k) && decide (k < (xs.length : Int)))) = !inC L.length (.int k)
      rw [hinC, hlen]
  · obtain ⟨c', k1, k2⟩ := hus'.getV hi
    rw [hc] at k1
    cases k1
    exact ev_da (ev_var rfl) (k2.mono ((e3.trans e4).trans e5))
  · rw [eqv_nil', filter_nil_all]
  · refine s_ret (Z := Z) (by walk_at "w") (by walk_at "ev") fun w H6 e6 r3 => ?_
    subst r3
    refine no (e14.trans (e5.trans e6)) ?_
    unfold mixC
    rw [intOfs]
    rcases Bool.or_eq_true _ _ |>.mp hb with h | h
    · have : decide (nsI.Pairwise (· < ·)) = false := by simpa only [Bool.not_eq_true'] using h
      rw [this]
      simp
    · have : (nsI.map PyData.int).all (inC L.length) = false := by simpa only [Bool.not_eq_true'] using h
      rw [this]
      simp
  obtain ⟨hb1, hb2⟩ := Bool.or_eq_false_iff.mp hb
  have hsort : decide (nsI.Pairwise (· < ·)) = true := by simpa only [Bool.not_eq_false'] using hb1
  have hall : (nsI.map PyData.int).all (inC L.length) = true := by simpa only [Bool.not_eq_false'] using hb2
  obtain ⟨js, hjs, jlt, jI, jN⟩ := inC_dec (List.all_eq_true.mp hall)
  have jl : js.length = nsI.length := by
    have := congrArg List.length hjs
    rw [List.length_map] at this
    rw [this]
    exact (List.length_map ..).symm
  have husJ : us' = iV js := by rw [hjs] at hus'; exact i_daL hus'
  have hmC : ws.all posW = true → ∀ qs, ws.map ratOf = qs → mixC L p (nsI.map PyData.int) ws = sumQ L p js qs := fun hpos qs hqs => by
    unfold mixC
    rw [intOfs, hsort, hall, hpos, jN, hqs, List.length_map, decide_eq_true hcw]
    by_cases h0 : 1 ≤ nsI.length
    · rw [decide_eq_true ⟨h0, h13⟩]
      simp
    · rw [decide_eq_false (fun h => h0 h.1)]
      have : qs = [] := by
        rw [← hqs]
        have : ws = [] := List.eq_nil_of_length_eq_zero (by omega)
        rw [this]; rfl
      subst this
      unfold sumQ
      rw [show tsum [] = 0 from rfl]
      simp
  have e15 := e14.trans e5
  have hnoW : ∀ w ∈ ws, posW w = false → ∀ {H6}, Xt Z H H6 → Q (.bl false) H6 := fun w hwm hp {H6} e6 => no e6 (by
    have : ws.all posW = false := by
      rw [Bool.eq_false_iff]
      intro h
      rw [List.all_eq_true.mp h w hwm] at hp
      cases hp
    unfold mixC
    rw [this]
    simp)
  generalize hQS : ws.map ratOf = QS at *
  have QSl : QS.length = ws.length := by rw [← hQS, List.length_map]
  have zz : ∀ {H6 H7 σ}, Xt Z H6 H7 → Ev Z (tTup (tCons (tC (.int 0)) (tCons (tC (.int 1)) tNil))) σ H7 (Ra Z 0) := fun {H6 H7 σ} _ => ev_tup (vs := [.int 0, .int 1]) (ea_cons ev_c (ea_cons ev_c ea_nil)) (by simp)
  refine q_asgG (Z := Z) (R := fun x H6 => ∃ a b c, TuR Z [a, b, c] x H6 ∧ Ra Z 0 a H6 ∧ Ra Z 0 b H6 ∧ Ra Z 0 c H6) (by walk_at "w") (EvN.ev (en_tup (RA := fun us H6 => ∃ a b c, us = [a, b, c] ∧ Ra Z 0 a H6 ∧ Ra Z 0 b H6 ∧ Ra Z 0 c H6) (ea_consX (zz (.refl e5.w2)) fun a H6 e6 ra => ea_consX (zz e6) fun b H7 e7 rb => ea_consX (zz e7) fun c H8 e8 rc => ea_nilX fun H9 e9 => ⟨a, b, c, rfl, ra.mono (e7.trans (e8.trans e9)), rb.mono (e8.trans e9), rc.mono e9⟩) (fun us H1 ⟨_, _, _, h, _⟩ => by rw [h]; simp)) fun q H6 e6 _ ⟨us, H7, ⟨a, b, c, hu, ra, rb, rc⟩, _, x8, hq1, hq2⟩ => ⟨a, b, c, ⟨q, rfl, ⟨.inl (by rw [hq1, hu])⟩, hq2⟩, ra.mono x8, rb.mono x8, rc.mono x8⟩) fun x0 H6 e6 ⟨va, vb, vcc, hx0, ra, rb, rc⟩ => g_tup3 hx0 ?_
  show tSeq _ _ _ [some v, some vp, some vv, some vc, some vw, some va, some vb, some vcc, none, none, none, none] H6
  have R0 : RB 10 0 := RB.mono (m := 1) ⟨by unfold B; decide, by unfold B; decide⟩ (by decide)
  have hu6 := hu4.mono (e5.trans e6)
  refine q_forR1 (Z := Z) (n := (us'.length : Int)) (by walk_at "w") (ea_cons (ev_lenT (ev_var rfl) hu6) ea_nil) ⟨by omega, by rw [ul, List.length_map]; omega⟩ (fun i σ' H' => ∃ (vt vx vy : V) (y8 y9 y10 : Option V), σ' = [some v, some vp, some vv, some vc, some vw, some vt, some vx, some vy, y8, y9, y10, none] ∧ Xt Z H6 H' ∧ (∀ w ∈ ws.take i, posW w = true) ∧ Ra Z (tsum (QS.take i)) vt H' ∧ Ra Z (dsum (fun j => rx (gt L j)) ((QS.zip js).take i)) vx H' ∧ Ra Z (dsum (fun j => ry (gt L j)) ((QS.zip js).take i)) vy H' ∧ RB (1100 * i + 10) (tsum (QS.take i)) ∧ RB (1100 * i + 10) (dsum (fun j => rx (gt L j)) ((QS.zip js).take i)) ∧ RB (1100 * i + 10) (dsum (fun j => ry (gt L j)) ((QS.zip js).take i)))
    (fun H7 e7 => ⟨va, vb, vcc, none, none, none, rfl, e7, (fun w h => by simp at h), ra.mono e7, rb.mono e7, rc.mono e7, R0, R0, R0⟩) (fun i σ' H' hi ⟨vt, vx, vy, y8, y9, y10, es, e7, hpw, rt, rx', ry', b1, b2, b3⟩ => ?_) (fun σ' H' ⟨vt, vx, vy, y8, y9, y10, es, e7, hpw, rt, rx', ry', b1, b2, b3⟩ => ?_)
  · subst es
    have hiw : i < ws.length := by rw [List.length_map] at ul; omega
    have hij : i < js.length := by omega
    have e16 := e15.trans e6
    have e57 := e16.trans e7
    have e47 := (e5.trans e6).trans e7
    have hws : ws[i]? = some ws[i] := List.getElem?_eq_getElem hiw
    obtain ⟨yw, hyw, hywa, hyd⟩ : ∃ yw, ts[i]? = some yw ∧ atI ts (i : Int) = some yw ∧ Da Z H2 yw ws[i] := by
      obtain ⟨y, k1, k2⟩ := hts.get hws
      exact ⟨y, k1, atI_nat k1, k2⟩
    have hwm : ws[i] ∈ ws := List.getElem_mem hiw
    have fwi := fw _ hwm
    have hQi : QS[i]? = some (ratOf ws[i]) := by rw [← hQS, List.getElem?_map, hws]; rfl
    generalize hwi : ws[i] = w at *
    have hjs1 : js[i]? = some js[i] := List.getElem?_eq_getElem hij
    have hjm := jlt _ (List.getElem_mem hij)
    generalize hji : js[i] = j at *
    obtain ⟨yp, _, hyp, hpp⟩ := atPt hxs (gt_get hjm)
    have ng := hL _ (gt_mem hjm)
    have gw : (gt L j).w ≠ 0 := by have := ng.p; omega
    have huj : atI us' (i : Int) = some (.int (j : Int)) := by rw [husJ]; exact atI_nat (iV_get hjs1)
    have hx7 := hx.mono e57
    have hu7 := hu4.mono e47
    have ht7 := ht4.mono e47
    show tSeq _ _ _ [some v, some vp, some vv, some vc, some vw, some vt, some vx, some vy, some (.int (i : Int)), y9, y10, none] H'
    refine q_par (Z := Z) (RA := fun us _ => us = [yw, yp]) (by walk_at "w") (ea_cons (ev_ixT (ev_var rfl) ht7 (ev_var rfl) hywa) (ea_cons (ev_ixT (ev_var rfl) hx7 (ev_ixT (ev_var rfl) hu7 (ev_var rfl) huj) hyp) ea_nil)) fun us H8 e8 hus => ⟨_, _, hus, ?_⟩
    show tSeq _ _ _ [some v, some vp, some vv, some vc, some vw, some vt, some vx, some vy, some (.int (i : Int)), some yw, some yp, none] H8
    have e28 : Xt Z H2 H8 := (e3.trans e4).trans (e47.trans e8)
    have e08 := e57.trans e8
    have hyd8 := hyd.mono e28
    have pp8 := hpp.mono e08
    by_cases hT : isT w = false
    · refine q_when (Z := Z) (b := true) (by walk_at "w") (et_is (a := !isT w || false) (et_or (et_not (et_B (ev_isTup (ev_var rfl) hyd8))) fun h => by rw [hT] at h; cases h) (by rw [hT]; rfl)) (fun _ H9 e9 => ?_) (fun h => by cases h)
      refine s_ret (Z := Z) (by walk_at "w") (by walk_at "ev") fun w9 H10 e10 r3 => ?_
      subst r3
      refine hnoW w hwm ?_ (e08.trans (e9.trans e10))
      unfold posW
      split
      · cases hT
      · rfl
    obtain ⟨zd, rfl⟩ : ∃ zd, w = .tuple zd := by
      cases w <;> simp [isT] at hT
      exact ⟨_, rfl⟩
    obtain ⟨zs, hz, hzs⟩ := hyd8.tupE
    have zl := hzs.length
    by_cases hz2 : zd.length ≠ 2
    · refine q_when (Z := Z) (b := true) (by walk_at "w") (et_is (et_or (et_not (et_B (ev_isTup (ev_var rfl) hyd8))) fun _ => et_test (ev_ne (ev_lenT (ev_var rfl) hz) ev_c rfl)) ?_) (fun _ H9 e9 => ?_) (fun h => by cases h)
      · have : ¬ (zs.length : Int) = 2 := by omega
        simp [isT, this]
      · refine s_ret (Z := Z) (by walk_at "w") (by walk_at "ev") fun w9 H10 e10 r3 => ?_
        subst r3
        refine hnoW _ hwm ?_ (e08.trans (e9.trans e10))
        unfold posW
        split
        · rename_i e
          cases e
          exact absurd rfl hz2
        · rfl
    have hz2 : zd.length = 2 := by omega
    obtain ⟨z1, z2, rfl⟩ : ∃ z1 z2, zd = [z1, z2] := by
      match zd, hz2 with
      | [a, b], _ => exact ⟨a, b, rfl⟩
    obtain ⟨w1, w2, rfl, k1, k2⟩ := da2 hzs
    refine q_when (Z := Z) (b := false) (by walk_at "w") (et_is (et_or (et_not (et_B (ev_isTup (ev_var rfl) hyd8))) fun _ => et_test (ev_ne (ev_lenT (ev_var rfl) hz) ev_c rfl)) (by simp [isT])) (fun h => by cases h) (fun _ H9 e9 => ?_)
    have hz9 := hz.mono e9
    have hzs9 := hzs.mono e9
    have noz : ∀ c ∈ [z1, z2], noL c = true := fun c hc => by
      have := fwi.l
      simp only [noL, noLL, Bool.and_true, Bool.and_eq_true] at this
      simp only [List.mem_cons, List.not_mem_nil, or_false] at hc
      rcases hc with rfl | rfl
      · exact this.1
      · exact this.2
    have smz : sm 4 (.list (([z1, z2].filter fun c => !posI c).map fun d => d)) ∧ nod (.list (([z1, z2].filter fun c => !posI c).map fun d => d)) = true := by
      rw [List.map_id']
      have hnd := fwi.d
      simp only [nod, nodL, Bool.and_true, Bool.and_eq_true] at hnd
      have hsm := fwi.s
      have hc1 : z1.canLay0 = true ∧ z2.canLay0 = true := by
        have := hsm.1
        simp only [PyData.canLay0, PyData.canLayAll0, Bool.and_true, Bool.and_eq_true] at this
        exact this
      have hd1 : z1.depth ≤ 3 ∧ z2.depth ≤ 3 := by
        have := hsm.2
        simp only [PyData.depth, PyData.depthAll] at this
        omega
      constructor
      · exact sm_lst fun d hd => by
          have := (List.mem_filter.mp hd).1
          simp only [List.mem_cons, List.not_mem_nil, or_false] at this
          rcases this with rfl | rfl
          · exact ⟨hc1.1, hd1.1⟩
          · exact ⟨hc1.2, hd1.2⟩
      · rw [nod]
        exact nodL_all fun d hd => by
          have := (List.mem_filter.mp hd).1
          simp only [List.mem_cons, List.not_mem_nil, or_false] at this
          rcases this with rfl | rfl
          · exact hnd.1
          · exact hnd.2
    refine q_when (Z := Z) (b := !([z1, z2].all posI)) (by walk_at "w") (et_test (ev_is (ev_neDD (d := .list (([z1, z2].filter fun c => !posI c).map fun d => d)) (EvN.da (en_lcTP (xs := [w1, w2]) [z1, z2] (fun c => !posI c) (fun d => d) (ev_var rfl) hz9 rfl (by simp) (fun x => rfl) noz (fun n x c H10 e10 hi hc => ?_) (fun n x c H10 e10 hi hc _ => ?_))) (ev_lstD ea_nilD (by simp)) smz.2 (by simp [nod, nodL]) (smz.1.sh (by decide)) sh_nil) (by rw [eqv_nil', filter_nil_all]))) (fun hb3 H10 e10 => ?_) (fun hb3 H10 e10 => ?_)
    · obtain ⟨c', m1, m2⟩ := hzs9.getV hi
      rw [hc] at m1
      cases m1
      have m2 := m2.mono e10
      show EvT Z _ [some v, some vp, some vv, some vc, some vw, some vt, some vx, some vy, some (.int (i : Int)), some yw, some yp, some x] H10 (!posI c)
      by_cases hci : (!isI c || isB c) = false
      · obtain ⟨k, rfl⟩ := isInt_iff.mp hci
        cases m2
        refine et_is (et_or (et_not (et_B (ev_isInt (ev_var rfl) (.int k)))) fun _ => et_or (et_B (ev_isBool (ev_var rfl) (.int k))) fun _ => et_test (ev_i0 (ev_var rfl) ev_c)) ?_
        show (!true || (false || decide (k ≤ 0))) = !decide (0 < k)
        by_cases h : 0 < k
        · rw [decide_eq_true h, decide_eq_false (show ¬ k ≤ 0 by omega)]; rfl
        · rw [decide_eq_false h, decide_eq_true (show k ≤ 0 by omega)]; rfl
      · have hci : (!isI c || isB c) = true := (Bool.not_eq_false _).mp hci
        have hpc : posI c = false := by
          cases c <;> simp [isI, isB] at hci <;> rfl
        refine et_is (a := !isI c || (isB c || false)) (et_or (et_not (et_B (ev_isInt (ev_var rfl) m2))) fun h1 => et_or (et_B (ev_isBool (ev_var rfl) m2)) fun h2 => ?_) ?_
        · rw [h1, h2] at hci
          cases hci
        · rw [hpc, Bool.or_false, hci]
          rfl
    · obtain ⟨c', m1, m2⟩ := hzs9.getV hi
      rw [hc] at m1
      cases m1
      exact ev_da (ev_var rfl) (m2.mono e10)
    · refine s_ret (Z := Z) (by walk_at "w") (by walk_at "ev") fun w9 H11 e11 r3 => ?_
      subst r3
      refine hnoW _ hwm ?_ (e08.trans (e9.trans (e10.trans e11)))
      unfold posW
      split
      · rename_i n m e
        cases e
        by_cases h1 : 0 < m
        · by_cases h2 : 0 < n
          · simp [posI, h1, h2] at hb3
          · simp [h2]
        · simp [h1]
      · rfl
    have hb4 : [z1, z2].all posI = true := by simpa only [Bool.not_eq_false'] using hb3
    obtain ⟨n, m, rfl, rfl, hn0, hm0⟩ : ∃ n m : Int, z1 = .int n ∧ z2 = .int m ∧ 0 < n ∧ 0 < m := by
      simp only [List.all_cons, List.all_nil, Bool.and_true, Bool.and_eq_true] at hb4
      obtain ⟨g1, g2⟩ := hb4
      unfold posI at g1 g2
      split at g1
      · split at g2
        · exact ⟨_, _, rfl, rfl, of_decide_eq_true g1, of_decide_eq_true g2⟩
        · cases g2
      · cases g1
    cases k1
    cases k2
    obtain ⟨bn, bm⟩ := fwi.b n m rfl
    have hz10 := hz9.mono e10
    have hm00 : m ≠ 0 := by omega
    have hnum : RB 1000 (Rat.divInt n m) := RB.mk2 hm00 bn bm
    refine q_when (Z := Z) (b := !decide (gcdI n m = 1)) (by walk_at "w") (et_test (ev_is (ev_neDD (d := raD (Rat.divInt n m)) (e := .tuple [.int n, .int m]) (Ev.imp (ev_l_ratio (ev_ixT (ev_var rfl) hz10 ev_c rfl) (ev_ixT (ev_var rfl) hz10 ev_c rfl) hm00 (bm.mono (by decide))) fun w9 H11 e11 h11 => Ra.da h11) (ev_da (ev_var rfl) (hyd8.mono (e9.trans e10))) (raD_nod _) (by simp [nod, nodL]) (raD_sh _) (fwi.s.sh (by decide))) ?_)) (fun hb5 H11 e11 => ?_) (fun hb5 H11 e11 => ?_)
    · congr 2
      have := rat_own (n := n) hm0
      by_cases hg : gcdI n m = 1
      · rw [decide_eq_true hg, ← this.mpr hg, raD_eqv]
        simp
      · rw [decide_eq_false hg]
        unfold raD
        rw [eqv_ii, Bool.eq_false_iff]
        intro h
        rw [Bool.and_eq_true, decide_eq_true_iff, decide_eq_true_iff] at h
        refine hg (this.mp ?_)
        unfold raD
        rw [h.1, h.2]
    · refine s_ret (Z := Z) (by walk_at "w") (by walk_at "ev") fun w9 H12 e12 r3 => ?_
      subst r3
      refine hnoW _ hwm ?_ (e08.trans (e9.trans (e10.trans (e11.trans e12))))
      have : ¬ gcdI n m = 1 := by simpa using hb5
      show (decide (0 < m) && decide (gcdI n m = 1) && decide (0 < n)) = false
      rw [decide_eq_false this]
      simp
    have hg : gcdI n m = 1 := by simpa using hb5
    have e811 := e9.trans (e10.trans e11)
    have rq : Ra Z (Rat.divInt n m) yw H11 := by
      have h := hz.mono e811
      obtain ⟨g1, g2⟩ := own_ratio hm0 hg
      show TuR Z [.int (Rat.divInt n m).num, .int ((Rat.divInt n m).den : Int)] yw H11
      rw [g1, g2]
      exact h
    have hQi' : QS[i]? = some (Rat.divInt n m) := hQi
    have hzip : (QS.zip js)[i]? = some (Rat.divInt n m, j) := by rw [List.getElem?_zip_eq_some]; exact ⟨hQi', hjs1⟩
    have st1 : (QS.zip js).take (i + 1) = (QS.zip js).take i ++ [(Rat.divInt n m, j)] := by rw [List.take_succ, hzip]; rfl
    have st2 : QS.take (i + 1) = QS.take i ++ [Rat.divInt n m] := by rw [List.take_succ, hQi']; rfl
    have i3 : i < 3 := by omega
    have pp11 := pp8.mono e811
    have e711 := e8.trans e811
    refine q_asg (Z := Z) (by walk_at "w") (ev_l_plusR (ev_raV (ev_var rfl) (rt.mono e711)) (ev_raV (ev_var rfl) rq) (b1.mono (by omega)) (hnum.mono (by decide))) fun vt' H12 e12' rt' => ?_
    rw [← tsum_snoc, ← st2] at rt'
    show tPar _ _ _ _ [some v, some vp, some vv, some vc, some vw, some vt', some vx, some vy, some (.int (i : Int)), some yw, some yp, none] H12
    have pp12 := pp11.mono e12'
    have rq12 := rq.mono e12'
    have tx : ∀ {H13}, Xt Z H12 H13 → Ev Z (tCall (spOf G_l_times) [] E0 (tCons (tVar 9) (tCons (tTup (tCons (tOp (rIxT K) (tVar 10) (tC (.int 0))) (tCons (tOp (rIxT K) (tVar 10) (tC (.int 2))) tNil))) tNil))) [some v, some vp, some vv, some vc, some vw, some vt', some vx, some vy, some (.int (i : Int)), some yw, some yp, none] H13 (Ra Z (Rat.divInt n m * rx (gt L j))) := fun {H13} e13' =>
      ev_l_timesR (ev_raV (ev_var rfl) (rq12.mono e13')) (ev_tup (ea_cons (ev_px (ev_var rfl) (pp12.mono e13') ev_c) (ea_cons (ev_pw (ev_var rfl) (pp12.mono e13') ev_c) ea_nil)) (by simp)) (hnum.mono (by decide)) (ng.x.mono (by decide)) (ng.w.mono (by decide)) gw
    have ty : ∀ {H13}, Xt Z H12 H13 → Ev Z (tCall (spOf G_l_times) [] E0 (tCons (tVar 9) (tCons (tTup (tCons (tOp (rIxT K) (tVar 10) (tC (.int 1))) (tCons (tOp (rIxT K) (tVar 10) (tC (.int 2))) tNil))) tNil))) [some v, some vp, some vv, some vc, some vw, some vt', some vx, some vy, some (.int (i : Int)), some yw, some yp, none] H13 (Ra Z (Rat.divInt n m * ry (gt L j))) := fun {H13} e13' =>
      ev_l_timesR (ev_raV (ev_var rfl) (rq12.mono e13')) (ev_tup (ea_cons (ev_py (ev_var rfl) (pp12.mono e13') ev_c) (ea_cons (ev_pw (ev_var rfl) (pp12.mono e13') ev_c) ea_nil)) (by simp)) (hnum.mono (by decide)) (ng.y.mono (by decide)) (ng.w.mono (by decide)) gw
    have bgx : RB 64 (rx (gt L j)) := RB.mk2 gw ng.x ng.w
    have bgy : RB 64 (ry (gt L j)) := RB.mk2 gw ng.y ng.w
    have e712 := e711.trans e12'
    refine s_par (Z := Z) (RA := fun us H13 => ∃ a b, us = [a, b] ∧ Ra Z (dsum (fun j => rx (gt L j)) ((QS.zip js).take i) + Rat.divInt n m * rx (gt L j)) a H13 ∧ Ra Z (dsum (fun j => ry (gt L j)) ((QS.zip js).take i) + Rat.divInt n m * ry (gt L j)) b H13) (by walk_at "w") (ea_consX (ev_l_plusR (ev_raV (ev_var rfl) (Ra.mono e712 rx')) (tx (.refl e12'.w2)) (b2.mono (by omega)) ((hnum.mul bgx).mono (by decide))) fun a H13 e13' ra => ea_consX (ev_l_plusR (ev_raV (ev_var rfl) (Ra.mono (e712.trans e13') ry')) (ty e13') (b3.mono (by omega)) ((hnum.mul bgy).mono (by decide))) fun b H14 e14' rb => ea_nilX fun H15 e15' => ⟨a, b, rfl, ra.mono (e14'.trans e15'), rb.mono e15'⟩) fun us H13 e13' ⟨a, b, hus', ra, rb⟩ => ⟨a, b, hus', ?_⟩
    rw [← dsum_snoc (fun j => rx (gt L j)) _ (Rat.divInt n m, j), ← st1] at ra
    rw [← dsum_snoc (fun j => ry (gt L j)) _ (Rat.divInt n m, j), ← st1] at rb
    refine ⟨vt', a, b, some (.int (i : Int)), some yw, some yp, rfl, e7.trans (e712.trans e13'), fun w hw => ?_, rt'.mono e13', ra, rb, ?_, ?_, ?_⟩
    · rw [List.take_succ, hws] at hw
      rcases List.mem_append.mp hw with hw | hw
      · exact hpw w hw
      · have : w = .tuple [.int n, .int m] := by simpa using hw
        rw [this]
        show (decide (0 < m) && decide (gcdI n m = 1) && decide (0 < n)) = true
        rw [decide_eq_true hm0, decide_eq_true hg, decide_eq_true hn0]
        rfl
    · rw [st2, tsum_snoc]
      exact (b1.add hnum).mono (by omega)
    · rw [st1, dsum_snoc]
      exact (b2.add (hnum.mul bgx)).mono (by omega)
    · rw [st1, dsum_snoc]
      exact (b3.add (hnum.mul bgy)).mono (by omega)
  · subst es
    have hle : us'.length = ws.length := by rw [List.length_map] at ul; omega
    rw [show ((us'.length : Int)).toNat = us'.length by omega] at hpw rt rx' ry'
    rw [List.take_of_length_le (by omega)] at hpw rt
    rw [List.take_of_length_le (by rw [List.length_zip]; omega)] at rx' ry'
    have hpos : ws.all posW = true := List.all_eq_true.mpr hpw
    have hfin := hmC hpos QS rfl
    have e07 := (e15.trans e6).trans e7
    have pp7 := pp.mono e07
    have npw : p.w ≠ 0 := by have := np.p; omega
    refine s_ret (Z := Z) (R := IsV (.bl (sumQ L p js QS))) (by walk_at "w") (ev_andV (ev_is (ev_eqDD (ev_da (ev_var rfl) rt.da) (Ev.imp (R := TuR Z [.int 1, .int 1]) (ev_tup (ea_cons ev_c (ea_cons ev_c ea_nil)) (by simp)) fun w H8 e8 h8 => (Ra.da (q := 1) h8)) (raD_nod _) (raD_nod _) (raD_sh _) (raD_sh _)) (by rw [raD_eqv])) fun _ => ev_andV (ev_is (ev_eqDD (ev_da (ev_var rfl) (Ra.da rx')) (Ev.imp (ev_l_ratio (n := p.x) (d := p.w) (ev_px (ev_var rfl) pp7 ev_c) (ev_pw (ev_var rfl) pp7 ev_c) npw (np.w.mono (by decide))) fun w H8 e8 h8 => Ra.da h8) (raD_nod _) (raD_nod _) (raD_sh _) (raD_sh _)) (by rw [raD_eqv]; rfl)) fun _ => ev_is (ev_eqDD (ev_da (ev_var rfl) (Ra.da ry')) (Ev.imp (ev_l_ratio (n := p.y) (d := p.w) (ev_py (ev_var rfl) pp7 ev_c) (ev_pw (ev_var rfl) pp7 ev_c) npw (np.w.mono (by decide))) fun w H8 e8 h8 => Ra.da h8) (raD_nod _) (raD_nod _) (raD_sh _) (raD_sh _)) (by rw [raD_eqv]; rfl)) fun w H8 e8 r8 => hq _ _ (e07.trans e8) ?_
    rw [r8, hlm]
    show V.bl _ = V.bl (mixC L p (nsI.map PyData.int) ws)
    rw [hfin]
section
variable {Z : Wd} {σ : L2.St} {H : Hp} {ta tb tc : TE} {E : XK}
theorem ev_l_is_mixture {v vp vv : V} {L : List Pt} {p : Pt} {d : PyData} (h1 : Ev Z ta σ H (IsV v)) (h2 : Ev Z tb σ H (IsV vp)) (h3 : Ev Z tc σ H (IsV vv)) (hd : Da Z H v (.tuple (L.map ptD))) (pp : P3 Z vp p H) (hL : ∀ q ∈ L, Nm q) (l1 : 1 ≤ L.length) (hl : L.length ≤ 40) (np : Nm p) (hv : Da Z H vv d) (hf : Fit d) :
    Ev Z (tCall (spOf G_l_is_mixture) [] E (tCons ta (tCons tb (tCons tc tNil)))) σ H (IsV (.bl (lmB L p d))) :=
  ev_call (ea_cons h1 (ea_cons h2 (ea_cons h3 ea_nil))) fun H1 e => ⟨v, vp, vv, L, p, d, rfl, hd.mono e, pp.mono e, hL, l1, hl, np, hv.mono e, hf, rfl⟩
end
end
end Hk
/-! ## F27 -/
namespace Hk
open PySem PySem.Spec PyProof.Rows L2
local macro_rules | `(tactic| walk_at "bd") => `(tactic| first
  | assumption
  | exact (show B 64 _ from by unfold B; decide)
  | (refine' B.mul ?b1 ?b2; (case b1 => walk_at "bd"); (case b2 => walk_at "bd"))
  | (refine' B.sub ?b1 ?b2; (case b1 => walk_at "bd"); (case b2 => walk_at "bd"))
  | (refine' B.add ?b1 ?b2; (case b1 => walk_at "bd"); (case b2 => walk_at "bd"))
  | (refine' B.neg ?b1; (case b1 => walk_at "bd")))
local macro_rules | `(tactic| walk_at "da") => `(tactic| first
  | assumption
  | exact Da.int _
  | exact Da.non
  | exact Da.bl _
  | exact Da.str _
  | ((with_reducible refine' P3.mono (by assumption) ?d1); (case d1 => walk_at "da"))
  | ((with_reducible refine' Ra.mono (by assumption) ?d1); (case d1 => walk_at "da"))
  | ((with_reducible refine' TuR.mono (by assumption) ?d1); (case d1 => walk_at "da"))
  | ((with_reducible refine' LiR.mono (by assumption) ?d1); (case d1 => walk_at "da"))
  | ((with_reducible refine' Da.mono (by assumption) ?d1); (case d1 => walk_at "da")))
local macro_rules | `(tactic| walk_at "xt") => `(tactic| first
  | assumption
  | (refine' Xt.trans ?x1 (by assumption); (case x1 => walk_at "xt")))
local macro_rules | `(tactic| walk_at "w") => `(tactic| first
  | assumption
  | exact Xt.w2 (by assumption)
  | exact Xt.w1 (by assumption))
local macro_rules | `(tactic| walk_at "side") => `(tactic| first
  | assumption
  | (refine' B.cmul ?b1 ?b2 ?b3; (case b1 => walk_at "bd"); (case b2 => walk_at "bd"); (case b3 => first | decide | omega))
  | (refine' B.cdiv ?b1 ?b2 ?b3; (case b1 => assumption); (case b2 => walk_at "bd"); (case b3 => first | decide | omega)))
local macro_rules | `(tactic| walk_at "ea") => `(tactic| first
  | with_reducible exact ea_nil
  | ((with_reducible refine' ea_cons ?p1 ?p2); (case p1 => walk_at "ev"); (case p2 => walk_at "ea")))
local macro_rules | `(tactic| walk_at "et") => `(tactic| first
  | ((with_reducible refine' et_and ?p1 ?p2); (case p1 => walk_at "et"); (case p2 => intro _; walk_at "et"))
  | ((with_reducible refine' et_or ?p1 ?p2); (case p1 => walk_at "et"); (case p2 => intro _; walk_at "et"))
  | ((with_reducible refine' et_not ?p1); (case p1 => walk_at "et"))
  | ((with_reducible refine' et_test ?p1); (case p1 => walk_at "ev"))
  | ((with_reducible refine' et_B ?p1); (case p1 => walk_at "ev")))
local macro_rules | `(tactic| walk_at "ev") => `(tactic| first
  | with_reducible exact ev_c
  | ((with_reducible refine' ev_var ?v1); (case v1 => exact rfl))
  | ((with_reducible refine' ev_px ?p1 ?p2 ?p3); (case p1 => walk_at "ev"); (case p2 => walk_at "da"); (case p3 => with_reducible exact ev_c))
  | ((with_reducible refine' ev_py ?p1 ?p2 ?p3); (case p1 => walk_at "ev"); (case p2 => walk_at "da"); (case p3 => with_reducible exact ev_c))
  | ((with_reducible refine' ev_pw ?p1 ?p2 ?p3); (case p1 => walk_at "ev"); (case p2 => walk_at "da"); (case p3 => with_reducible exact ev_c))
  | ((with_reducible refine' ev_ixT ?p1 ?p2 ?p3 ?p4); (case p1 => walk_at "ev"); (case p2 => walk_at "da"); (case p3 => walk_at "ev"); (case p4 => first | exact rfl | assumption))
  | ((with_reducible refine' ev_ixL ?p1 ?p2 ?p3 ?p4); (case p1 => walk_at "ev"); (case p2 => walk_at "da"); (case p3 => walk_at "ev"); (case p4 => first | exact rfl | assumption))
  | ((with_reducible refine' ev_i0 ?p1 ?p2); (case p1 => walk_at "ev"); (case p2 => walk_at "ev"))
  | ((with_reducible refine' ev_iC ?p1 ?p2 ?p3); (case p1 => walk_at "ev"); (case p2 => walk_at "ev"); (case p3 => walk_at "side"))
  | ((with_reducible refine' ev_neg ?p1); (case p1 => walk_at "ev"))
  | ((with_reducible refine' ev_eq ?p1 ?p2 ?p3); (case p1 => walk_at "ev"); (case p2 => walk_at "ev"); (case p3 => exact rfl))
  | ((with_reducible refine' ev_ne ?p1 ?p2 ?p3); (case p1 => walk_at "ev"); (case p2 => walk_at "ev"); (case p3 => exact rfl))
  | ((with_reducible refine' ev_andV ?p1 ?p2); (case p1 => walk_at "ev"); (case p2 => intro _; walk_at "ev"))
  | ((with_reducible refine' ev_orV ?p1 ?p2); (case p1 => walk_at "ev"); (case p2 => intro _; walk_at "ev"))
  | ((with_reducible refine' ev_notV ?p1); (case p1 => walk_at "ev"))
  | ((with_reducible refine' ev_subB ?p1 ?p2); (case p1 => walk_at "ev"); (case p2 => walk_at "ev"))
  | ((with_reducible refine' ev_chI ?p1 ?p2 ?p3); (case p1 => walk_at "ev"); (case p2 => walk_at "ev"); (case p3 => walk_at "ev"))
  | ((with_reducible refine' ev_isInt ?p1 ?p2); (case p1 => walk_at "ev"); (case p2 => walk_at "da"))
  | ((with_reducible refine' ev_isBool ?p1 ?p2); (case p1 => walk_at "ev"); (case p2 => walk_at "da"))
  | ((with_reducible refine' ev_isStr ?p1 ?p2); (case p1 => walk_at "ev"); (case p2 => walk_at "da"))
  | ((with_reducible refine' ev_isTup ?p1 ?p2); (case p1 => walk_at "ev"); (case p2 => walk_at "da"))
  | ((with_reducible refine' ev_isLst ?p1 ?p2); (case p1 => walk_at "ev"); (case p2 => walk_at "da"))
  | ((with_reducible refine' ev_isTL ?p1 ?p2); (case p1 => walk_at "ev"); (case p2 => walk_at "da"))
  | ((with_reducible refine' ev_lenT ?p1 ?p2); (case p1 => walk_at "ev"); (case p2 => walk_at "da"))
  | ((with_reducible refine' ev_lenL ?p1 ?p2); (case p1 => walk_at "ev"); (case p2 => walk_at "da"))
  | ((with_reducible refine' ev_abs ?p1); (case p1 => walk_at "ev"))
  | ((with_reducible refine' ev_min2 ?p1 ?p2); (case p1 => walk_at "ev"); (case p2 => walk_at "ev"))
  | ((with_reducible refine' ev_int1 ?p1); (case p1 => walk_at "ev"))
  | ((with_reducible refine' ev_isN ?p1); (case p1 => walk_at "ev"))
  | ((with_reducible refine' ev_notN ?p1); (case p1 => walk_at "ev"))
  | ((with_reducible refine' ev_sign ?p1); (case p1 => walk_at "ev"))
  | ((with_reducible refine' ev_gcd ?p1 ?p2); (case p1 => walk_at "ev"); (case p2 => walk_at "ev"))
  | ((with_reducible refine' ev_is_in ?p1 ?p2 ?p3 ?p4); (case p1 => walk_at "ev"); (case p2 => walk_at "da"); (case p3 => walk_at "ev"); (case p4 => walk_at "ev"))
  | ((with_reducible refine' ev_doubled ?p1 ?p2 ?p3 ?p4 ?p5 ?p6 ?p7 ?p8 ?p9); (case p1 => walk_at "ev"); (case p2 => walk_at "ev"); (case p3 => walk_at "ev"); (case p4 => walk_at "da"); (case p5 => walk_at "da"); (case p6 => walk_at "da"); (case p7 => assumption); (case p8 => assumption); (case p9 => assumption))
  | ((with_reducible refine' ev_order_of ?p1 ?p2 ?p3 ?p4 ?p5 ?p6); (case p1 => walk_at "ev"); (case p2 => walk_at "ev"); (case p3 => walk_at "da"); (case p4 => walk_at "da"); (case p5 => assumption); (case p6 => assumption))
  | ((with_reducible refine' ev_turn_of ?p1 ?p2 ?p3 ?p4 ?p5 ?p6 ?p7 ?p8 ?p9); (case p1 => walk_at "ev"); (case p2 => walk_at "ev"); (case p3 => walk_at "ev"); (case p4 => walk_at "da"); (case p5 => walk_at "da"); (case p6 => walk_at "da"); (case p7 => assumption); (case p8 => assumption); (case p9 => assumption))
  | ((with_reducible refine' ev_is_between ?p1 ?p2 ?p3 ?p4 ?p5 ?p6 ?p7 ?p8 ?p9); (case p1 => walk_at "ev"); (case p2 => walk_at "ev"); (case p3 => walk_at "ev"); (case p4 => walk_at "da"); (case p5 => walk_at "da"); (case p6 => walk_at "da"); (case p7 => assumption); (case p8 => assumption); (case p9 => assumption)))
section
variable {P : Program} {w : World} {K : PySem.W.Frag} {mg : Str → Option Value} {base : Heap}
section
variable {Z : Wd} {σ : L2.St} {H : Hp} {ta tb te : TE} {v : V} {xs : List V} {d : PyData}
theorem ev_dictE : Ev Z tDNewK σ H (DaR Z (.dict [])) := fun H1 e Q q => fun p hp => q _ _ (.new e.w2 hp) (.dct upd_same (nS e.w2 hp))
theorem ev_tupT {ds : List PyData} (h : Ev Z te σ H (DaR Z (.tuple ds))) : Ev Z (tCB (fun xs H Q => ∃ a ys, xs = [.ref a] ∧ SqT K H a ys ∧ Q (.ref a) H) (tCons te tNil)) σ H (DaR Z (.tuple ds)) := fun H1 e Q q =>
  h H1 e _ fun w H2 e2 hw => by
    cases hw with
    | tup k1 k2 k3 => exact ⟨_, _, rfl, .inl k1.h, q _ H2 e2 (.tup k1 k2 k3)⟩
theorem ev_rep1 {ds : List PyData} {k : Int} (ha : Ev Z ta σ H (DaR Z (.tuple ds))) (hb : Ev Z tb σ H (IsV (.int k))) (h0 : 1 ≤ ds.length) (h1 : ds.length ≤ 100) (hk : 1 ≤ k ∧ k ≤ 2) : Ev Z (tOp (rRepT1 K) ta tb) σ H (DaR Z (.tuple (if k = 1 then ds else ds ++ ds))) :=
  ev_opX (Rb := fun _ => IsV (.int k)) ha (fun _ _ e1 _ => hb.mono e1) fun x y H1 H2 e1 e2 hx hy Q q => by
    subst hy
    have hx2 := Da.mono e2 hx
    cases hx2 with
    | tup a1 a2 a3 =>
      have n1 := a3.length
      refine ⟨_, k, _, rfl, rfl, .inl a1.h, fun z => ?_, by omega, ?_⟩
      · rw [z] at n1
        simp at n1
        omega
      · by_cases h : k = 1
        · left
          refine ⟨h, q _ H2 (.refl e2.w2) ?_⟩
          rw [if_pos h]
          exact .tup a1 a2 a3
        · right
          have k2 : k = 2 := by omega
          subst k2
          refine ⟨by decide, by decide, fun p hp => q _ _ (.new e2.w2 hp) ?_⟩
          rw [if_neg (by decide)]
          refine .tup ⟨.inl upd_same⟩ (nS e2.w2 hp) ?_
          have e : ∀ (l : List V), (List.replicate (2 : Int).toNat l).flatten = l ++ l := fun l => by simp [List.replicate]
          rw [e]
          exact (a3.append a3).mono (.new e2.w2 hp)
theorem ev_min2' {i j : Int} (ha : Ev Z ta σ H (IsV (.int i))) (hb : Ev Z tb σ H (IsV (.int j))) : Ev Z (tCB rMin2 (tCons ta (tCons tb tNil))) σ H (IsV (.int (min i j))) := ev_is (ev_min2 ha hb) (by
  congr 1
  split <;> omega)
theorem ev_tupRg {n : Nat} (h : Ev Z te σ H (IsV (.int (n : Int)))) (hn : n ≤ 1000) : Ev Z (tTupRg (tRg1 te)) σ H (DaR Z (.tuple (((List.range n).map fun (i : Nat) => (i : Int)).map PyData.int))) := fun H1 e Q q =>
  h H1 e _ fun w H2 e2 hw => ⟨(n : Int), hw, .of_le (by omega) (by omega) (by omega) (by omega), fun p hp => q _ _ (e2.trans (.new e2.w2 hp)) (.tup ⟨.inl upd_same⟩ (nS e2.w2 hp) (by
    have e0 : rgV 0 (n : Int) = ((List.range n).map fun (i : Nat) => (i : Int)).map V.int := by
      unfold rgV
      rw [List.map_map]
      show (List.range ((n : Int) - 0).toNat).map _ = _
      rw [show ((n : Int) - 0).toNat = n by omega]
      refine List.map_congr_left fun i _ => ?_
      show V.int (0 + (i : Int)) = V.int (i : Int)
      rw [Int.zero_add]
    rw [e0]
    exact daL_ints _))⟩
theorem DaL.dropLast {ds : List PyData} {vs : List V} (h : DaL Z H vs ds) : DaL Z H vs.dropLast ds.dropLast := by
  rw [List.dropLast_eq_take, List.dropLast_eq_take, h.length]
  exact h.take _
theorem ev_slD {ds : List PyData} (ha : Ev Z te σ H (IsV v)) (hd : Da Z H v (.tuple ds)) (hb : Ev Z tb σ H (IsV (.int (-1)))) : Ev Z (tSl (rSlA K) te tNoPart (tPart tb)) σ H (DaR Z (.tuple ds.dropLast)) := by
  obtain ⟨xs, hx, hxs⟩ := hd.tupE
  have h := ev_slT (K := K) ha hx eo_none (eo_some hb)
  rw [cut_last] at h
  exact h.imp fun w H1 e hw => hw.da (hxs.dropLast.mono e)
end
/-! ### data that the judge is asked -/
structure Good (d : PyData) : Prop where
  f : Fit d
  o : FitO d
structure FJ (d : PyData) : Prop where
  i : FitI d
  l : noL d = true
theorem fitJ_int {n : Nat} {i : Int} : FitJ (.int i) := ⟨by simp [noL], by simp [nod], sm_int _ _, (fun _ _ h => nomatch h)⟩
theorem fitJ_bool {b : Bool} : FitJ (.bool b) := ⟨by simp [noL], by simp [nod], sm_bool _ _, (fun _ _ h => nomatch h)⟩
theorem fitJ_pair {i j : Int} (hi : B 1000 i) (hj : B 1000 j) : FitJ (.tuple [.int i, .int j]) := ⟨by simp [noL, noLL], by simp [nod, nodL], (sm_tup (n := 0) fun d hd => by
  simp only [List.mem_cons, List.not_mem_nil, or_false] at hd
  rcases hd with rfl | rfl <;> exact sm_int _ _).mono (by decide), fun _ _ h => by cases h; exact ⟨hi, hj⟩⟩
theorem fj_int {n : Nat} {i : Int} (h : B n i) (hn : n ≤ 9000) : FJ (.int i) := ⟨⟨by simp [nod], sm_int _ _, fun _ e => by cases e; exact h.mono hn, (fun _ e => nomatch e)⟩, by simp [noL]⟩
theorem fj_bool {b : Bool} : FJ (.bool b) := ⟨⟨by simp [nod], sm_bool _ _, (fun _ e => nomatch e), (fun _ e => nomatch e)⟩, by simp [noL]⟩
theorem fj_non : FJ .none := ⟨⟨by simp [nod], sm_non _, (fun _ e => nomatch e), (fun _ e => nomatch e)⟩, by simp [noL]⟩
theorem fj_str {s : Str} (h : PyData.strOk s = true) : FJ (.str s) := ⟨⟨by simp [nod], sm_str _ h, (fun _ e => nomatch e), (fun _ e => nomatch e)⟩, by simp [noL]⟩
theorem fj_in : FJ (.str sIn) := fj_str (by decide +kernel)
theorem fj_out : FJ (.str sOut) := fj_str (by decide +kernel)
theorem fj_tup {cs : List PyData} (h : ∀ c ∈ cs, FitJ c) : FJ (.tuple cs) := ⟨⟨by
  rw [nod]
  exact nodL_all fun d hd => (h d hd).d, (sm_tup fun d hd => (h d hd).s).mono (by decide), (fun _ e => nomatch e), fun _ e c hc => by
    cases e
    exact h c hc⟩, by
  rw [noL]
  exact noLL_all fun d hd => (h d hd).l⟩
theorem fi_lst {cs : List PyData} (h : ∀ c ∈ cs, FitJ c) : FitI (.list cs) := ⟨by
  rw [nod]
  exact nodL_all fun d hd => (h d hd).d, (sm_lst fun d hd => (h d hd).s).mono (by decide), (fun _ e => nomatch e), (fun _ e => nomatch e)⟩
theorem good_of {d : PyData} (h : isT d = false) : Good d := by
  refine ⟨fun ds e => ?_, fun _ _ _ _ e => ?_⟩
  · rw [e] at h
    cases h
  · rw [e] at h
    cases h
theorem good_tup {ds : List PyData} (h : ∀ e ∈ ds, FJ e) : Good (.tuple ds) := ⟨fun ds' e c hc => by
  cases e
  exact (h c hc).i, fun d0 d1 d2 d3 e => by
    cases e
    exact ⟨(h d1 (by simp)).l, (h d2 (by simp)).l, (h d3 (by simp)).l⟩⟩
theorem good_tup3 {a b c : PyData} (h1 : FitI a) (h2 : FitI b) (h3 : FitI c) : Good (.tuple [a, b, c]) := ⟨fun ds' e c hc => by
  cases e
  simp only [List.mem_cons, List.not_mem_nil, or_false] at hc
  rcases hc with rfl | rfl | rfl
  · exact h1
  · exact h2
  · exact h3, fun d0 d1 d2 d3 e => by cases e⟩
def oneW (i j : Int) : PyData := .tuple [.int i, .int j]
theorem fitJ_one {i j : Int} (hi : B 64 i) (hj : B 64 j) : FitJ (oneW i j) := fitJ_pair (hi.mono (by decide)) (hj.mono (by decide))
/-- what locate_in_hull hands back -/
structure VQ (vs : List PyData) : Prop where
  f : ∀ e ∈ vs, FJ e
  l1 : 1 ≤ vs.length
  l2 : vs.length ≤ 4
theorem VQ.good {vs : List PyData} (h : VQ vs) : Good (.tuple vs) := good_tup h.f
theorem VQ.goodD {vs : List PyData} (h : VQ vs) : Good (.tuple vs.dropLast) := good_tup fun e he => h.f e (List.dropLast_subset _ he)
theorem VQ.good0 {vs : List PyData} (h : VQ vs) : Good (.tuple (vs ++ [.int 0])) := good_tup fun e he => by
  rcases List.mem_append.mp he with he | he
  · exact h.f e he
  · rcases List.mem_singleton.mp he with rfl
    exact fj_int (n := 1) (by unfold B; decide) (by decide)
theorem mix_true {L : List Pt} {p : Pt} {js : List Nat} {ws : List Rat} (h : Mix L p js ws) : lmB L p (inD js ws) = true := by
  show (isStrC (.str (Str.ofString "in")) sIn && mixC L p (iD js) (ws.map raD)) = true
  have h0 : isStrC (.str (Str.ofString "in")) sIn = true := by decide +kernel
  obtain ⟨⟨k1, k2, k3, k4, k5⟩, u, lt, l1, l3, rb⟩ := h
  have hl : (iD js).length = js.length := List.length_map ..
  have e1 : (iD js).all (inC L.length) = true := List.all_eq_true.mpr fun c hc => by
    obtain ⟨j, hj, rfl⟩ := List.mem_map.mp hc
    have := lt j hj
    show (decide (0 ≤ (j : Int)) && decide ((j : Int) ≤ (L.length : Int) - 1)) = true
    rw [decide_eq_true (by omega), decide_eq_true (by omega)]
    rfl
  have e2 : (iD js).map intOf = js.map fun (j : Nat) => (j : Int) := by
    unfold iD
    rw [List.map_map]
    rfl
  have e3 : ((iD js).map intOf).Pairwise (· < ·) := by
    rw [e2]
    exact List.pairwise_map.mpr (u.imp fun h => by omega)
  have e4 : (ws.map raD).all posW = true := List.all_eq_true.mpr fun c hc => by
    obtain ⟨q, hq, rfl⟩ := List.mem_map.mp hc
    exact posW_raD (k2 q hq)
  have e5 : ((iD js).map fun d => (intOf d).toNat) = js := by
    unfold iD
    rw [List.map_map]
    exact (List.map_congr_left (g := id) fun j _ => by simp [intOf]).trans (List.map_id js)
  have e6 : (ws.map raD).map ratOf = ws := by
    rw [List.map_map]
    exact (List.map_congr_left (g := id) fun q _ => Rat.num_divInt_den q).trans (List.map_id ws)
  unfold mixC
  rw [h0, e1, e4, e5, e6, hl, List.length_map, decide_eq_true k1.symm, decide_eq_true (show 1 ≤ js.length ∧ js.length ≤ 3 from ⟨l1, l3⟩), decide_eq_true e3]
  unfold sumQ
  rw [decide_eq_true k3, decide_eq_true k4, decide_eq_true k5]
  rfl
theorem bar_true {L : List Pt} {p : Pt} {u v s : Int} (h : Bar L p u v s) : lbB L p (outD u v s) = true := by
  show (isStrC (.str (Str.ofString "out")) sOut && barQ L p u v s) = true
  rw [show isStrC (.str (Str.ofString "out")) sOut = true by decide +kernel, Bar.q.mpr h]
  rfl
theorem LoR.val {Z : Wd} {L : List Pt} {p : Pt} {v : V} {H : Hp} (h : LoR Z L p v H) : ∃ vs inn, VQ vs ∧ Da Z H v (.tuple vs) ∧ (inn = true ↔ Reg (hullP L) p) ∧ lmB L p (.tuple vs) = inn ∧ lbB L p (.tuple vs) = !inn := by
  rcases h with ⟨hr, js, ws, hm, hd⟩ | ⟨hr, u, w, s, hb, b1, b2, b3, hd⟩
  · refine ⟨_, true, ⟨fun e he => ?_, by simp, by simp⟩, hd, ⟨fun _ => hr, fun _ => rfl⟩, mix_true hm, rfl⟩
    simp only [List.mem_cons, List.not_mem_nil, or_false] at he
    rcases he with rfl | rfl | rfl
    · exact fj_in
    · refine fj_tup fun c hc => ?_
      obtain ⟨j, _, rfl⟩ := List.mem_map.mp hc
      exact fitJ_int (n := 0)
    · refine fj_tup fun c hc => ?_
      obtain ⟨q, hq, rfl⟩ := List.mem_map.mp hc
      have r := (hm.rb q hq).mono (n := 1000) (by decide)
      exact fitJ_pair r.a r.b
  · refine ⟨_, false, ⟨fun e he => ?_, by simp, by simp⟩, hd, ⟨(fun h => nomatch h), fun h => absurd h hr⟩, rfl, bar_true hb⟩
    simp only [List.mem_cons, List.not_mem_nil, or_false] at he
    rcases he with rfl | rfl | rfl | rfl
    · exact fj_out
    · exact fj_int b1 (by decide)
    · exact fj_int b2 (by decide)
    · exact fj_int b3 (by decide)
theorem eqvAll_pts : ∀ (a b : List Pt), PyData.eqvAll (a.map ptD) (b.map ptD) = decide (a = b)
  | [], [] => by simp [PyData.eqvAll]
  | [], _ :: _ => by simp [PyData.eqvAll]
  | _ :: _, [] => by simp [PyData.eqvAll]
  | x :: r, y :: s => by
    have ih := eqvAll_pts r s
    rw [List.map_cons, List.map_cons, PyData.eqvAll, ih, ptD_eqv, Bool.eq_iff_iff]
    simp
theorem eqv_pts (a b : List Pt) : PyData.eqv (.tuple (a.map ptD)) (.tuple (b.map ptD)) = decide (a = b) := by
  rw [PyData.eqv]
  exact eqvAll_pts a b
/-! ### lists of such data, as they are made -/
def GdR (Z : Wd) : Rl := fun x H => ∃ d, Good d ∧ Da Z H x d
def GdL (Z : Wd) (n : Nat) (us : List V) (H : Hp) : Prop := ∃ ds, (∀ d ∈ ds, Good d) ∧ ds.length = n ∧ DaL Z H us ds
def OddR (Z : Wd) (n : Nat) : Rl := fun x H => ∃ ds, (∀ d ∈ ds, Good d) ∧ ds.length = n ∧ Da Z H x (.list ds)
section
variable {Z : Wd} {σ : L2.St} {H : Hp} {ta tb te : TE} {v : V} {xs : List V} {d : PyData}
theorem ev_gd (h : Ev Z te σ H (DaR Z d)) (g : Good d) : Ev Z te σ H (GdR Z) := h.imp fun w H1 e hw => ⟨d, g, hw⟩
theorem ea_nilG : EvA Z tNil σ H (GdL Z 0) := ea_nilX fun H1 e => ⟨[], (fun d hd => nomatch hd), rfl, .nil⟩
theorem ea_consG {tr : TA} {n : Nat} (h : Ev Z te σ H (GdR Z)) (hr : EvA Z tr σ H (GdL Z n)) : EvA Z (tCons te tr) σ H (GdL Z (n + 1)) := fun H1 e Q q =>
  h H1 e _ fun w H2 e2 ⟨d, g, hw⟩ => hr H2 (e.trans e2) _ fun us H3 e3 ⟨ds, k1, k2, k3⟩ => q _ _ (e2.trans e3) ⟨d :: ds, fun c hc => by
    rcases List.mem_cons.mp hc with rfl | hc
    · exact g
    · exact k1 c hc, by rw [List.length_cons, k2], .cons (hw.mono e3) k3⟩
theorem ev_oddL {ta' : TA} {n : Nat} (h : EvA Z ta' σ H (GdL Z n)) (hn : n ≤ 1000) : Ev Z (tLst ta') σ H (OddR Z n) :=
  (en_lst h fun us H1 ⟨ds, _, k2, k3⟩ => by rw [k3.length]; omega).ev fun p H1 e1 _ ⟨us, H2, ⟨ds, k1, k2, k3⟩, _, e3, hp, hn⟩ => ⟨ds, k1, k2, .lst hp hn (k3.mono e3)⟩
theorem ev_oddC {m n : Nat} (ha : Ev Z ta σ H (OddR Z m)) (hb : Ev Z tb σ H (OddR Z n)) (hl : m + n ≤ 1000) : Ev Z (tOp rCat ta tb) σ H (OddR Z (m + n)) :=
  ev_opX (Rb := fun _ => OddR Z n) ha (fun _ _ e1 _ => hb.mono e1) fun x y H1 H2 e1 e2 ⟨ds, a1, a2, a3⟩ ⟨es, b1, b2, b3⟩ Q q => by
    have a4 := a3.mono e2
    cases a4 with
    | lst k1 k2 k3 =>
      cases b3 with
      | lst j1 j2 j3 =>
        have n1 := k3.length
        have n2 := j3.length
        exact ⟨_, _, _, _, rfl, rfl, k1, j1, by rw [sizeLine_eq]; omega, fun p hp => q _ _ (.new e2.w2 hp) ⟨ds ++ es, fun c hc => by
          rcases List.mem_append.mp hc with hc | hc
          · exact a1 c hc
          · exact b1 c hc, by rw [List.length_append]; omega, .lst upd_same (nS e2.w2 hp) ((k3.append j3).mono (.new e2.w2 hp))⟩⟩
theorem OddR.mono {n : Nat} {H' : Hp} (e : Xt Z H H') (h : OddR Z n v H) : OddR Z n v H' := by
  obtain ⟨ds, k1, k2, k3⟩ := h
  exact ⟨ds, k1, k2, k3.mono e⟩
theorem ev_oddV {n : Nat} (h : Ev Z te σ H (IsV v)) (ho : OddR Z n v H) : Ev Z te σ H (OddR Z n) := h.imp fun w H1 e hw => by
  subst hw
  exact ho.mono e
end
end
end Hk
/-! ## F28 -/
namespace Hk
open PySem PySem.Spec PyProof.Rows L2
local macro_rules | `(tactic| walk_at "bd") => `(tactic| first
  | assumption
  | exact (show B 64 _ from by unfold B; decide)
  | (refine' B.mul ?b1 ?b2; (case b1 => walk_at "bd"); (case b2 => walk_at "bd"))
  | (refine' B.sub ?b1 ?b2; (case b1 => walk_at "bd"); (case b2 => walk_at "bd"))
  | (refine' B.add ?b1 ?b2; (case b1 => walk_at "bd"); (case b2 => walk_at "bd"))
  | (refine' B.neg ?b1; (case b1 => walk_at "bd")))
local macro_rules | `(tactic| walk_at "da") => `(tactic| first
  | assumption
  | exact Da.int _
  | exact Da.non
  | exact Da.bl _
  | exact Da.str _
  | ((with_reducible refine' P3.mono (by assumption) ?d1); (case d1 => walk_at "da"))
  | ((with_reducible refine' Ra.mono (by assumption) ?d1); (case d1 => walk_at "da"))
  | ((with_reducible refine' TuR.mono (by assumption) ?d1); (case d1 => walk_at "da"))
  | ((with_reducible refine' LiR.mono (by assumption) ?d1); (case d1 => walk_at "da"))
  | ((with_reducible refine' Da.mono (by assumption) ?d1); (case d1 => walk_at "da")))
local macro_rules | `(tactic| walk_at "xt") => `(tactic| first
  | assumption
  | (refine' Xt.trans ?x1 (by assumption); (case x1 => walk_at "xt")))
local macro_rules | `(tactic| walk_at "w") => `(tactic| first
  | assumption
  | exact Xt.w2 (by assumption)
  | exact Xt.w1 (by assumption))
local macro_rules | `(tactic| walk_at "side") => `(tactic| first
  | assumption
  | (refine' B.cmul ?b1 ?b2 ?b3; (case b1 => walk_at "bd"); (case b2 => walk_at "bd"); (case b3 => first | decide | omega))
  | (refine' B.cdiv ?b1 ?b2 ?b3; (case b1 => assumption); (case b2 => walk_at "bd"); (case b3 => first | decide | omega)))
local macro_rules | `(tactic| walk_at "ea") => `(tactic| first
  | with_reducible exact ea_nil
  | ((with_reducible refine' ea_cons ?p1 ?p2); (case p1 => walk_at "ev"); (case p2 => walk_at "ea")))
local macro_rules | `(tactic| walk_at "et") => `(tactic| first
  | ((with_reducible refine' et_and ?p1 ?p2); (case p1 => walk_at "et"); (case p2 => intro _; walk_at "et"))
  | ((with_reducible refine' et_or ?p1 ?p2); (case p1 => walk_at "et"); (case p2 => intro _; walk_at "et"))
  | ((with_reducible refine' et_not ?p1); (case p1 => walk_at "et"))
  | ((with_reducible refine' et_test ?p1); (case p1 => walk_at "ev"))
  | ((with_reducible refine' et_B ?p1); (case p1 => walk_at "ev")))
local macro_rules | `(tactic| walk_at "ev") => `(tactic| first
  | with_reducible exact ev_c
  | ((with_reducible refine' ev_var ?v1); (case v1 => exact rfl))
  | ((with_reducible refine' ev_px ?p1 ?p2 ?p3); (case p1 => walk_at "ev"); (case p2 => walk_at "da"); (case p3 => with_reducible exact ev_c))
  | ((with_reducible refine' ev_py ?p1 ?p2 ?p3); (case p1 => walk_at "ev"); (case p2 => walk_at "da"); (case p3 => with_reducible exact ev_c))
  | ((with_reducible refine' ev_pw ?p1 ?p2 ?p3); (case p1 => walk_at "ev"); (case p2 => walk_at "da"); (case p3 => with_reducible exact ev_c))
  | ((with_reducible refine' ev_ixT ?p1 ?p2 ?p3 ?p4); (case p1 => walk_at "ev"); (case p2 => walk_at "da"); (case p3 => walk_at "ev"); (case p4 => first | exact rfl | assumption))
  | ((with_reducible refine' ev_ixL ?p1 ?p2 ?p3 ?p4); (case p1 => walk_at "ev"); (case p2 => walk_at "da"); (case p3 => walk_at "ev"); (case p4 => first | exact rfl | assumption))
  | ((with_reducible refine' ev_i0 ?p1 ?p2); (case p1 => walk_at "ev"); (case p2 => walk_at "ev"))
  | ((with_reducible refine' ev_iC ?p1 ?p2 ?p3); (case p1 => walk_at "ev"); (case p2 => walk_at "ev"); (case p3 => walk_at "side"))
  | ((with_reducible refine' ev_neg ?p1); (case p1 => walk_at "ev"))
  | ((with_reducible refine' ev_eq ?p1 ?p2 ?p3); (case p1 => walk_at "ev"); (case p2 => walk_at "ev"); (case p3 => exact rfl))
  | ((with_reducible refine' ev_ne ?p1 ?p2 ?p3); (case p1 => walk_at "ev"); (case p2 => walk_at "ev"); (case p3 => exact rfl))
  | ((with_reducible refine' ev_andV ?p1 ?p2); (case p1 => walk_at "ev"); (case p2 => intro _; walk_at "ev"))
  | ((with_reducible refine' ev_orV ?p1 ?p2); (case p1 => walk_at "ev"); (case p2 => intro _; walk_at "ev"))
  | ((with_reducible refine' ev_notV ?p1); (case p1 => walk_at "ev"))
  | ((with_reducible refine' ev_subB ?p1 ?p2); (case p1 => walk_at "ev"); (case p2 => walk_at "ev"))
  | ((with_reducible refine' ev_chI ?p1 ?p2 ?p3); (case p1 => walk_at "ev"); (case p2 => walk_at "ev"); (case p3 => walk_at "ev"))
  | ((with_reducible refine' ev_isInt ?p1 ?p2); (case p1 => walk_at "ev"); (case p2 => walk_at "da"))
  | ((with_reducible refine' ev_isBool ?p1 ?p2); (case p1 => walk_at "ev"); (case p2 => walk_at "da"))
  | ((with_reducible refine' ev_isStr ?p1 ?p2); (case p1 => walk_at "ev"); (case p2 => walk_at "da"))
  | ((with_reducible refine' ev_isTup ?p1 ?p2); (case p1 => walk_at "ev"); (case p2 => walk_at "da"))
  | ((with_reducible refine' ev_isLst ?p1 ?p2); (case p1 => walk_at "ev"); (case p2 => walk_at "da"))
  | ((with_reducible refine' ev_isTL ?p1 ?p2); (case p1 => walk_at "ev"); (case p2 => walk_at "da"))
  | ((with_reducible refine' ev_lenT ?p1 ?p2); (case p1 => walk_at "ev"); (case p2 => walk_at "da"))
  | ((with_reducible refine' ev_lenL ?p1 ?p2); (case p1 => walk_at "ev"); (case p2 => walk_at "da"))
  | ((with_reducible refine' ev_abs ?p1); (case p1 => walk_at "ev"))
  | ((with_reducible refine' ev_min2 ?p1 ?p2); (case p1 => walk_at "ev"); (case p2 => walk_at "ev"))
  | ((with_reducible refine' ev_int1 ?p1); (case p1 => walk_at "ev"))
  | ((with_reducible refine' ev_isN ?p1); (case p1 => walk_at "ev"))
  | ((with_reducible refine' ev_notN ?p1); (case p1 => walk_at "ev"))
  | ((with_reducible refine' ev_sign ?p1); (case p1 => walk_at "ev"))
  | ((with_reducible refine' ev_gcd ?p1 ?p2); (case p1 => walk_at "ev"); (case p2 => walk_at "ev"))
  | ((with_reducible refine' ev_is_in ?p1 ?p2 ?p3 ?p4); (case p1 => walk_at "ev"); (case p2 => walk_at "da"); (case p3 => walk_at "ev"); (case p4 => walk_at "ev"))
  | ((with_reducible refine' ev_doubled ?p1 ?p2 ?p3 ?p4 ?p5 ?p6 ?p7 ?p8 ?p9); (case p1 => walk_at "ev"); (case p2 => walk_at "ev"); (case p3 => walk_at "ev"); (case p4 => walk_at "da"); (case p5 => walk_at "da"); (case p6 => walk_at "da"); (case p7 => assumption); (case p8 => assumption); (case p9 => assumption))
  | ((with_reducible refine' ev_order_of ?p1 ?p2 ?p3 ?p4 ?p5 ?p6); (case p1 => walk_at "ev"); (case p2 => walk_at "ev"); (case p3 => walk_at "da"); (case p4 => walk_at "da"); (case p5 => assumption); (case p6 => assumption))
  | ((with_reducible refine' ev_turn_of ?p1 ?p2 ?p3 ?p4 ?p5 ?p6 ?p7 ?p8 ?p9); (case p1 => walk_at "ev"); (case p2 => walk_at "ev"); (case p3 => walk_at "ev"); (case p4 => walk_at "da"); (case p5 => walk_at "da"); (case p6 => walk_at "da"); (case p7 => assumption); (case p8 => assumption); (case p9 => assumption))
  | ((with_reducible refine' ev_is_between ?p1 ?p2 ?p3 ?p4 ?p5 ?p6 ?p7 ?p8 ?p9); (case p1 => walk_at "ev"); (case p2 => walk_at "ev"); (case p3 => walk_at "ev"); (case p4 => walk_at "da"); (case p5 => walk_at "da"); (case p6 => walk_at "da"); (case p7 => assumption); (case p8 => assumption); (case p9 => assumption)))
section
variable {P : Program} {w : World} {K : PySem.W.Frag} {mg : Str → Option Value} {base : Heap}
theorem nd_len : ∀ {C L : List Pt}, C.Nodup → (∀ c ∈ C, c ∈ L) → C.length ≤ L.length
  | [], L, _, _ => Nat.zero_le _
  | c :: r, L, hn, hs => by
    have hc := hs c (by simp)
    obtain ⟨h1, h2⟩ := List.nodup_cons.mp hn
    have ih := nd_len (C := r) (L := L.erase c) h2 fun d hd => (List.mem_erase_of_ne (show d ≠ c from fun e => h1 (by rw [← e]; exact hd))).mpr (hs d (List.mem_cons_of_mem _ hd))
    rw [List.length_erase_of_mem hc] at ih
    have : 0 < L.length := List.length_pos_of_mem hc
    rw [List.length_cons]
    omega
theorem hull_len {L : List Pt} (h : Pts L) : (hullP L).length ≤ L.length := nd_len (hull_nd (hullP_hull h)) (hullP_hull h).sub
/-! ### lists of which every item is so -/
def AllR (RR : Rl) (n : Nat) (us : List V) (H : Hp) : Prop := us.length = n ∧ ∀ x ∈ us, RR x H
def OkR (Z : Wd) : Rl := fun v H => ∃ p, P3 Z v p H ∧ Ok p
def PtL (Z : Wd) (L : List Pt) : Rl := fun v H => ∃ p, P3 Z v p H ∧ p ∈ L
section
variable {Z : Wd} {σ : L2.St} {H : Hp} {ta tb tc td te : TE} {v : V} {xs : List V} {d d1 d2 d3 d4 : PyData} {RR : Rl}
theorem OkR.mono {H' : Hp} (e : Xt Z H H') (h : OkR Z v H) : OkR Z v H' := by
  obtain ⟨p, h1, h2⟩ := h
  exact ⟨p, h1.mono e, h2⟩
theorem ea_nilL : EvA Z tNil σ H (AllR RR 0) := ea_nilX fun H1 e => ⟨rfl, (fun x hx => nomatch hx)⟩
theorem ea_consL {tr : TA} {n : Nat} (hm : ∀ {x H1 H2}, Xt Z H1 H2 → RR x H1 → RR x H2) (h : Ev Z te σ H RR) (hr : EvA Z tr σ H (AllR RR n)) : EvA Z (tCons te tr) σ H (AllR RR (n + 1)) := fun H1 e Q q =>
  h H1 e _ fun w H2 e2 hw => hr H2 (e.trans e2) _ fun us H3 e3 ⟨k1, k2⟩ => q _ _ (e2.trans e3) ⟨by rw [List.length_cons, k1], fun x hx => by
    rcases List.mem_cons.mp hx with rfl | hx
    · exact hm e3 hw
    · exact k2 x hx⟩
theorem ev_t1 (h1 : Ev Z ta σ H (DaR Z d1)) : Ev Z (tTup (tCons ta tNil)) σ H (DaR Z (.tuple [d1])) := ev_tupD (ea_consD h1 ea_nilD) (by simp)
theorem ev_t2 (h1 : Ev Z ta σ H (DaR Z d1)) (h2 : Ev Z tb σ H (DaR Z d2)) : Ev Z (tTup (tCons ta (tCons tb tNil))) σ H (DaR Z (.tuple [d1, d2])) := ev_tupD (ea_consD h1 (ea_consD h2 ea_nilD)) (by simp)
theorem ev_t3 (h1 : Ev Z ta σ H (DaR Z d1)) (h2 : Ev Z tb σ H (DaR Z d2)) (h3 : Ev Z tc σ H (DaR Z d3)) : Ev Z (tTup (tCons ta (tCons tb (tCons tc tNil)))) σ H (DaR Z (.tuple [d1, d2, d3])) := ev_tupD (ea_consD h1 (ea_consD h2 (ea_consD h3 ea_nilD))) (by simp)
theorem ev_t4 (h1 : Ev Z ta σ H (DaR Z d1)) (h2 : Ev Z tb σ H (DaR Z d2)) (h3 : Ev Z tc σ H (DaR Z d3)) (h4 : Ev Z td σ H (DaR Z d4)) : Ev Z (tTup (tCons ta (tCons tb (tCons tc (tCons td tNil))))) σ H (DaR Z (.tuple [d1, d2, d3, d4])) := ev_tupD (ea_consD h1 (ea_consD h2 (ea_consD h3 (ea_consD h4 ea_nilD)))) (by simp)
theorem ev_t0 : Ev Z (tTup tNil) σ H (DaR Z (.tuple [])) := ev_tupD ea_nilD (by simp)
theorem ev_l1 (h1 : Ev Z ta σ H (DaR Z d1)) : Ev Z (tLst (tCons ta tNil)) σ H (DaR Z (.list [d1])) := ev_lstD (ea_consD h1 ea_nilD) (by simp)
theorem ev_ci {i : Int} : Ev Z (tC (.int i)) σ H (DaR Z (.int i)) := ev_da ev_c (.int i)
theorem ev_cs {s : Str} : Ev Z (tC (.str s)) σ H (DaR Z (.str s)) := ev_da ev_c (.str s)
theorem ev_pairC {i j : Int} : Ev Z (tTup (tCons (tC (.int i)) (tCons (tC (.int j)) tNil))) σ H (DaR Z (oneW i j)) := ev_t2 ev_ci ev_ci
end
theorem good_in {cs ws : List PyData} (hc : ∀ c ∈ cs, FitJ c) (hw : ∀ c ∈ ws, FitJ c) : Good (.tuple [.str sIn, .tuple cs, .tuple ws]) := good_tup fun e he => by
  simp only [List.mem_cons, List.not_mem_nil, or_false] at he
  rcases he with rfl | rfl | rfl
  · exact fj_in
  · exact fj_tup hc
  · exact fj_tup hw
theorem good_out {a b c : PyData} (h1 : FJ a) (h2 : FJ b) (h3 : FJ c) : Good (.tuple [.str sOut, a, b, c]) := good_tup fun e he => by
  simp only [List.mem_cons, List.not_mem_nil, or_false] at he
  rcases he with rfl | rfl | rfl | rfl
  · exact fj_out
  · exact h1
  · exact h2
  · exact h3
theorem fits0 : ∀ c ∈ ([] : List PyData), FitJ c := fun c hc => nomatch hc
theorem fits1 {a : PyData} (h : FitJ a) : ∀ c ∈ [a], FitJ c := fun c hc => by
  rcases List.mem_singleton.mp hc with rfl
  exact h
theorem fits2 {a b : PyData} (h : FitJ a) (h2 : FitJ b) : ∀ c ∈ [a, b], FitJ c := fun c hc => by
  simp only [List.mem_cons, List.not_mem_nil, or_false] at hc
  rcases hc with rfl | rfl
  · exact h
  · exact h2
theorem fits_ints {ns : List Int} : ∀ c ∈ ns.map PyData.int, FitJ c := fun c hc => by
  obtain ⟨i, _, rfl⟩ := List.mem_map.mp hc
  exact fitJ_int (n := 0)
theorem bS {i : Int} (h : -1000000000000 ≤ i ∧ i ≤ 1000000000000) : B 64 i := by unfold B; omega
theorem fjI {i : Int} (h : -1000000000000 ≤ i ∧ i ≤ 1000000000000) : FJ (.int i) := fj_int (bS h) (by decide)
theorem fJ0 {i : Int} : FitJ (.int i) := fitJ_int (n := 0)
theorem f1W {i j : Int} (h : -100 ≤ i ∧ i ≤ 100) (k : -100 ≤ j ∧ j ≤ 100) : FitJ (oneW i j) := fitJ_one (bS (by omega)) (bS (by omega))
section
variable {TT : Tb K} {ra sa : Addr} {ns : Scr K sa} {σ : L2.St} {H : Hp} {ta tb tc : TE} {E : XK}
/-- pick of a list display -/
theorem ev_pickL {ta' : TA} {RR : Rl} {n : Nat} (hm : ∀ {x H1 H2}, Xt (Zr TT ra sa ns) H1 H2 → RR x H1 → RR x H2) (h1 : Ev (Zr TT ra sa ns) ta σ H (IsV (.ref ra))) (h2 : EvA (Zr TT ra sa ns) ta' σ H (AllR RR n)) (l1 : 1 ≤ n) (l2 : n ≤ 1000) :
    Ev (Zr TT ra sa ns) (tCall (spOf (G_l_pick TT)) [] E (tCons ta (tCons (tLst ta') tNil))) σ H RR :=
  ev_pickX h1 (EvN.ev (en_lst h2 fun us H1 h => by rw [h.1]; omega) fun q H1 e1 _ ⟨us, H2, ⟨k1, k2⟩, _, e2, hq1, hq2⟩ => ⟨us, ⟨q, rfl, hq1, hq2⟩, by omega, by omega, fun i x hx H3 e3 => hm (e2.trans e3) (k2 x (List.mem_of_getElem? hx))⟩)
/-- pick of the points -/
theorem ev_pickP {v : V} {L : List Pt} (h1 : Ev (Zr TT ra sa ns) ta σ H (IsV (.ref ra))) (h2 : Ev (Zr TT ra sa ns) tb σ H (IsV v)) (hd : Da (Zr TT ra sa ns) H v (.tuple (L.map ptD))) (l1 : 1 ≤ L.length) (l2 : L.length ≤ 1000) :
    Ev (Zr TT ra sa ns) (tCall (spOf (G_l_pick TT)) [] E (tCons ta (tCons tb tNil))) σ H (PtL (Zr TT ra sa ns) L) := by
  obtain ⟨xs, hx, hxs⟩ := hd.tupE
  have hlen : xs.length = L.length := by rw [hxs.length, List.length_map]
  exact (ev_pick h1 h2 (.inr hx) (by omega) (by omega)).imp fun x H1 e ⟨i, hi⟩ => by
    obtain ⟨p, hp, pp⟩ := getPt hxs hi
    exact ⟨p, pp.mono e, List.mem_of_getElem? hp⟩
/-- pick of the odd values -/
theorem ev_pickO {v : V} {n : Nat} (h1 : Ev (Zr TT ra sa ns) ta σ H (IsV (.ref ra))) (h2 : Ev (Zr TT ra sa ns) tb σ H (IsV v)) (ho : OddR (Zr TT ra sa ns) n v H) (l1 : 1 ≤ n) (l2 : n ≤ 1000) :
    Ev (Zr TT ra sa ns) (tCall (spOf (G_l_pick TT)) [] E (tCons ta (tCons tb tNil))) σ H (GdR (Zr TT ra sa ns)) := by
  obtain ⟨ds, hg, hn, hd⟩ := ho
  obtain ⟨xs, hx, hxs⟩ := hd.lstE
  have hlen : xs.length = n := by rw [hxs.length, hn]
  exact (ev_pick h1 h2 (.inl hx) (by omega) (by omega)).imp fun x H1 e ⟨i, hi⟩ => by
    obtain ⟨d, h1, h2⟩ := hxs.getV hi
    exact ⟨d, hg d (List.mem_of_getElem? h1), h2.mono e⟩
end
section
variable {Z : Wd} {σ : L2.St} {H : Hp} {ta tb tc : TE} {E : XK}
theorem ev_l_hullX {L C : List Pt} (h1 : Ev Z ta σ H (DaR Z (.tuple (L.map ptD)))) (hok : ∀ q ∈ L, Ok q) (nd : L.Nodup) (l : L.length ≤ 20) (hh : IsHull C L) : Ev Z (tCall (spOf G_l_hull) [] E (tCons ta tNil)) σ H (DaR Z (.tuple (C.map ptD))) :=
  ev_callX (RA := fun us H1 => ∃ v, us = [v] ∧ Da Z H1 v (.tuple (L.map ptD))) (ea_consX h1 fun v H1 e1 r1 => ea_nilX fun H2 e2 => ⟨v, rfl, r1.mono e2⟩) fun us H1 e ⟨v, hu, r⟩ => ⟨v, L, C, hu, r, hok, nd, l, hh, rfl⟩
end
end
end Hk
/-! ## F29 -/
namespace Hk
open PySem PySem.Spec PyProof.Rows L2
local macro_rules | `(tactic| walk_at "bd") => `(tactic| first
  | assumption
  | exact (show B 64 _ from by unfold B; decide)
  | (refine' B.mul ?b1 ?b2; (case b1 => walk_at "bd"); (case b2 => walk_at "bd"))
  | (refine' B.sub ?b1 ?b2; (case b1 => walk_at "bd"); (case b2 => walk_at "bd"))
  | (refine' B.add ?b1 ?b2; (case b1 => walk_at "bd"); (case b2 => walk_at "bd"))
  | (refine' B.neg ?b1; (case b1 => walk_at "bd")))
local macro_rules | `(tactic| walk_at "da") => `(tactic| first
  | assumption
  | exact Da.int _
  | exact Da.non
  | exact Da.bl _
  | exact Da.str _
  | ((with_reducible refine' P3.mono (by assumption) ?d1); (case d1 => walk_at "da"))
  | ((with_reducible refine' Ra.mono (by assumption) ?d1); (case d1 => walk_at "da"))
  | ((with_reducible refine' TuR.mono (by assumption) ?d1); (case d1 => walk_at "da"))
  | ((with_reducible refine' LiR.mono (by assumption) ?d1); (case d1 => walk_at "da"))
  | ((with_reducible refine' Da.mono (by assumption) ?d1); (case d1 => walk_at "da")))
local macro_rules | `(tactic| walk_at "xt") => `(tactic| first
  | assumption
  | (refine' Xt.trans ?x1 (by assumption); (case x1 => walk_at "xt")))
local macro_rules | `(tactic| walk_at "w") => `(tactic| first
  | assumption
  | exact Xt.w2 (by assumption)
  | exact Xt.w1 (by assumption))
local macro_rules | `(tactic| walk_at "side") => `(tactic| first
  | assumption
  | (refine' B.cmul ?b1 ?b2 ?b3; (case b1 => walk_at "bd"); (case b2 => walk_at "bd"); (case b3 => first | decide | omega))
  | (refine' B.cdiv ?b1 ?b2 ?b3; (case b1 => assumption); (case b2 => walk_at "bd"); (case b3 => first | decide | omega)))
local macro_rules | `(tactic| walk_at "ea") => `(tactic| first
  | with_reducible exact ea_nil
  | ((with_reducible refine' ea_cons ?p1 ?p2); (case p1 => walk_at "ev"); (case p2 => walk_at "ea")))
local macro_rules | `(tactic| walk_at "et") => `(tactic| first
  | ((with_reducible refine' et_and ?p1 ?p2); (case p1 => walk_at "et"); (case p2 => intro _; walk_at "et"))
  | ((with_reducible refine' et_or ?p1 ?p2); (case p1 => walk_at "et"); (case p2 => intro _; walk_at "et"))
  | ((with_reducible refine' et_not ?p1); (case p1 => walk_at "et"))
  | ((with_reducible refine' et_test ?p1); (case p1 => walk_at "ev"))
  | ((with_reducible refine' et_B ?p1); (case p1 => walk_at "ev")))
local macro_rules | `(tactic| walk_at "ev") => `(tactic| first
  | with_reducible exact ev_c
  | ((with_reducible refine' ev_var ?v1); (case v1 => exact rfl))
  | ((with_reducible refine' ev_px ?p1 ?p2 ?p3); (case p1 => walk_at "ev"); (case p2 => walk_at "da"); (case p3 => with_reducible exact ev_c))
  | ((with_reducible refine' ev_py ?p1 ?p2 ?p3); (case p1 => walk_at "ev"); (case p2 => walk_at "da"); (case p3 => with_reducible exact ev_c))
  | ((with_reducible refine' ev_pw ?p1 ?p2 ?p3); (case p1 => walk_at "ev"); (case p2 => walk_at "da"); (case p3 => with_reducible exact ev_c))
  | ((with_reducible refine' ev_ixT ?p1 ?p2 ?p3 ?p4); (case p1 => walk_at "ev"); (case p2 => walk_at "da"); (case p3 => walk_at "ev"); (case p4 => first | exact rfl | assumption))
  | ((with_reducible refine' ev_ixL ?p1 ?p2 ?p3 ?p4); (case p1 => walk_at "ev"); (case p2 => walk_at "da"); (case p3 => walk_at "ev"); (case p4 => first | exact rfl | assumption))
  | ((with_reducible refine' ev_i0 ?p1 ?p2); (case p1 => walk_at "ev"); (case p2 => walk_at "ev"))
  | ((with_reducible refine' ev_iC ?p1 ?p2 ?p3); (case p1 => walk_at "ev"); (case p2 => walk_at "ev"); (case p3 => walk_at "side"))
  | ((with_reducible refine' ev_neg ?p1); (case p1 => walk_at "ev"))
  | ((with_reducible refine' ev_eq ?p1 ?p2 ?p3); (case p1 => walk_at "ev"); (case p2 => walk_at "ev"); (case p3 => exact rfl))
  | ((with_reducible refine' ev_ne ?p1 ?p2 ?p3); (case p1 => walk_at "ev"); (case p2 => walk_at "ev"); (case p3 => exact rfl))
  | ((with_reducible refine' ev_andV ?p1 ?p2); (case p1 => walk_at "ev"); (case p2 => intro _; walk_at "ev"))
  | ((with_reducible refine' ev_orV ?p1 ?p2); (case p1 => walk_at "ev"); (case p2 => intro _; walk_at "ev"))
  | ((with_reducible refine' ev_notV ?p1); (case p1 => walk_at "ev"))
  | ((with_reducible refine' ev_subB ?p1 ?p2); (case p1 => walk_at "ev"); (case p2 => walk_at "ev"))
  | ((with_reducible refine' ev_chI ?p1 ?p2 ?p3); (case p1 => walk_at "ev"); (case p2 => walk_at "ev"); (case p3 => walk_at "ev"))
  | ((with_reducible refine' ev_isInt ?p1 ?p2); (case p1 => walk_at "ev"); (case p2 => walk_at "da"))
  | ((with_reducible refine' ev_isBool ?p1 ?p2); (case p1 => walk_at "ev"); (case p2 => walk_at "da"))
  | ((with_reducible refine' ev_isStr ?p1 ?p2); (case p1 => walk_at "ev"); (case p2 => walk_at "da"))
  | ((with_reducible refine' ev_isTup ?p1 ?p2); (case p1 => walk_at "ev"); (case p2 => walk_at "da"))
  | ((with_reducible refine' ev_isLst ?p1 ?p2); (case p1 => walk_at "ev"); (case p2 => walk_at "da"))
  | ((with_reducible refine' ev_isTL ?p1 ?p2); (case p1 => walk_at "ev"); (case p2 => walk_at "da"))
  | ((with_reducible refine' ev_lenT ?p1 ?p2); (case p1 => walk_at "ev"); (case p2 => walk_at "da"))
  | ((with_reducible refine' ev_lenL ?p1 ?p2); (case p1 => walk_at "ev"); (case p2 => walk_at "da"))
  | ((with_reducible refine' ev_abs ?p1); (case p1 => walk_at "ev"))
  | ((with_reducible refine' ev_min2 ?p1 ?p2); (case p1 => walk_at "ev"); (case p2 => walk_at "ev"))
  | ((with_reducible refine' ev_int1 ?p1); (case p1 => walk_at "ev"))
  | ((with_reducible refine' ev_isN ?p1); (case p1 => walk_at "ev"))
  | ((with_reducible refine' ev_notN ?p1); (case p1 => walk_at "ev"))
  | ((with_reducible refine' ev_sign ?p1); (case p1 => walk_at "ev"))
  | ((with_reducible refine' ev_gcd ?p1 ?p2); (case p1 => walk_at "ev"); (case p2 => walk_at "ev"))
  | ((with_reducible refine' ev_is_in ?p1 ?p2 ?p3 ?p4); (case p1 => walk_at "ev"); (case p2 => walk_at "da"); (case p3 => walk_at "ev"); (case p4 => walk_at "ev"))
  | ((with_reducible refine' ev_doubled ?p1 ?p2 ?p3 ?p4 ?p5 ?p6 ?p7 ?p8 ?p9); (case p1 => walk_at "ev"); (case p2 => walk_at "ev"); (case p3 => walk_at "ev"); (case p4 => walk_at "da"); (case p5 => walk_at "da"); (case p6 => walk_at "da"); (case p7 => assumption); (case p8 => assumption); (case p9 => assumption))
  | ((with_reducible refine' ev_order_of ?p1 ?p2 ?p3 ?p4 ?p5 ?p6); (case p1 => walk_at "ev"); (case p2 => walk_at "ev"); (case p3 => walk_at "da"); (case p4 => walk_at "da"); (case p5 => assumption); (case p6 => assumption))
  | ((with_reducible refine' ev_turn_of ?p1 ?p2 ?p3 ?p4 ?p5 ?p6 ?p7 ?p8 ?p9); (case p1 => walk_at "ev"); (case p2 => walk_at "ev"); (case p3 => walk_at "ev"); (case p4 => walk_at "da"); (case p5 => walk_at "da"); (case p6 => walk_at "da"); (case p7 => assumption); (case p8 => assumption); (case p9 => assumption))
  | ((with_reducible refine' ev_is_between ?p1 ?p2 ?p3 ?p4 ?p5 ?p6 ?p7 ?p8 ?p9); (case p1 => walk_at "ev"); (case p2 => walk_at "ev"); (case p3 => walk_at "ev"); (case p4 => walk_at "da"); (case p5 => walk_at "da"); (case p6 => walk_at "da"); (case p7 => assumption); (case p8 => assumption); (case p9 => assumption)))
section
variable {P : Program} {w : World} {K : PySem.W.Frag} {mg : Str → Option Value} {base : Heap}
def G_law (T : Tb K) : Gv := fun Z vs H R => ∃ (sa : Addr) (ns : Scr K sa), Z = Zt T.t ∧ vs = [.ref sa] ∧ (∀ o, ns.so = some o → H sa = some o) ∧ R = IsV (.bl true)
theorem ok_law (T : Tx K mg) (TB : LamX.TabB base mg T.c_ranked T.P_ranked) : FnOk P w K mg base CX0 10 T.f_law T.d_law ["_law_script"] (spOf (G_law (tbx T))) := by
  refine T.F_law.ok sc_law (fun vs H Q E h => ?_) (fun cdv A outer s H vs Q E hr h => ?_)
  · obtain ⟨Z, R, _, ⟨sa, ns, _, rfl, _⟩, _⟩ := h
    rfl
  obtain ⟨_, R, hw, ⟨sa, ns, rfl, rfl, hso, rfl⟩, hq⟩ := h
  refine ⟨_, (pss_cons (ps_set (i := 1) sc_law.nd rfl (Or.inl rfl) (pe_lst (pa_cons (pv 0) (pa_cons pe_int (pa_cons pe_int (pa_cons pe_int pa_nil))))))
  (pss_cons (ps_set (i := 2) sc_law.nd rfl (Or.inl rfl) (pe_call (ok_l_moved T) (hr.mono (by decide)) (by rfl) T.g_l_moved T.F_l_moved.kp T.b_l_moved .nil pass0 (pa_cons (pv 1) (pa_cons (pe_call (ok_l_points T) (hr.mono (by decide)) (by rfl) T.g_l_points T.F_l_points.kp T.b_l_points .nil pass0 (pa_cons (pv 1) (pa_cons pe_int (pa_cons pe_int (pa_cons (pe_call (ok_l_pick T) (hr.mono (by decide)) (by rfl) T.g_l_pick T.F_l_pick.kp T.b_l_pick .nil pass0 (pa_cons (pv 1) (pa_cons (pe_lst (pa_cons pe_int (pa_cons pe_int pa_nil))) pa_nil))) pa_nil))))) pa_nil))))
  (pss_cons (ps_if (pt_not (pt_val (pe_call (ok_l_alike T) (hr.mono (by decide)) (by rfl) T.g_l_alike T.F_l_alike.kp T.b_l_alike .nil pass0 (pa_cons (pe_call (ok_hull T TB) (hr.mono (by decide)) (by rfl) T.g_hull T.F_hull.kp T.b_hull .nil pass0 (pa_cons (pv 2) pa_nil)) (pa_cons (pe_call (ok_l_hull T) (hr.mono (by decide)) (by rfl) T.g_l_hull T.F_l_hull.kp T.b_l_hull .nil pass0 (pa_cons (pv 2) pa_nil)) pa_nil)))))
  (pss_one (ps_ret pe_bl))
  pss_nil)
  (pss_cons (ps_for PassesOwn.never rfl (pi_range1 (by rfl) T.z_range (pa_cons pe_int pa_nil)) (pg_name (i := 3) sc_law.nd rfl (Or.inl rfl))
  (pss_cons (ps_set (i := 4) sc_law.nd rfl (Or.inl rfl) (pe_call (ok_l_pick T) (hr.mono (by decide)) (by rfl) T.g_l_pick T.F_l_pick.kp T.b_l_pick .nil pass0 (pa_cons (pv 1) (pa_cons (pe_lst (pa_cons (pe_call (ok_l_pick T) (hr.mono (by decide)) (by rfl) T.g_l_pick T.F_l_pick.kp T.b_l_pick .nil pass0 (pa_cons (pv 1) (pa_cons (pv 2) pa_nil))) (pa_cons (pe_call (ok_l_point T) (hr.mono (by decide)) (by rfl) T.g_l_point T.F_l_point.kp T.b_l_point .nil pass0 (pa_cons (pv 1) (pa_cons pe_int pa_nil))) (pa_cons (pe_call (ok_l_point T) (hr.mono (by decide)) (by rfl) T.g_l_point T.F_l_point.kp T.b_l_point .nil pass0 (pa_cons (pv 1) (pa_cons pe_int pa_nil))) pa_nil)))) pa_nil))))
    (pss_cons (ps_par (i := 5) (j := 6) rfl sc_law.nd rfl rfl (by decide) rfl rfl (pa_cons (pe_call (ok_l_pick T) (hr.mono (by decide)) (by rfl) T.g_l_pick T.F_l_pick.kp T.b_l_pick .nil pass0 (pa_cons (pv 1) (pa_cons (pv 2) pa_nil))) (pa_cons (pe_call (ok_l_pick T) (hr.mono (by decide)) (by rfl) T.g_l_pick T.F_l_pick.kp T.b_l_pick .nil pass0 (pa_cons (pv 1) (pa_cons (pv 2) pa_nil))) pa_nil)) (by rfl))
    (pss_cons (ps_set (i := 7) sc_law.nd rfl (Or.inl rfl) (pe_call (ok_l_lowest T) (hr.mono (by decide)) (by rfl) T.g_l_lowest T.F_l_lowest.kp T.b_l_lowest .nil pass0 (pa_cons (pe_op op_sub (pe_op op_mulW pe_int (pe_ix ix_tup (pv 5) pe_int (fun _ _ => rfl))) (pe_ix ix_tup (pv 6) pe_int (fun _ _ => rfl))) (pa_cons (pe_op op_sub (pe_op op_mulW pe_int (pe_ix ix_tup (pv 5) pe_int (fun _ _ => rfl))) (pe_ix ix_tup (pv 6) pe_int (fun _ _ => rfl))) (pa_cons pe_int pa_nil)))))
    (pss_cons (ps_set (i := 4) sc_law.nd rfl (Or.inl rfl) (pe_call (ok_l_pick T) (hr.mono (by decide)) (by rfl) T.g_l_pick T.F_l_pick.kp T.b_l_pick .nil pass0 (pa_cons (pv 1) (pa_cons (pe_lst (pa_cons (pv 4) (pa_cons (pe_call (ok_l_lowest T) (hr.mono (by decide)) (by rfl) T.g_l_lowest T.F_l_lowest.kp T.b_l_lowest .nil pass0 (pa_cons (pe_op op_add (pe_ix ix_tup (pv 5) pe_int (fun _ _ => rfl)) (pe_ix ix_tup (pv 6) pe_int (fun _ _ => rfl))) (pa_cons (pe_op op_add (pe_ix ix_tup (pv 5) pe_int (fun _ _ => rfl)) (pe_ix ix_tup (pv 6) pe_int (fun _ _ => rfl))) (pa_cons pe_int pa_nil)))) (pa_cons (pv 7) (pa_cons (pe_call (ok_l_lowest T) (hr.mono (by decide)) (by rfl) T.g_l_lowest T.F_l_lowest.kp T.b_l_lowest .nil pass0 (pa_cons (pe_ix ix_tup (pv 5) pe_int (fun _ _ => rfl)) (pa_cons (pe_ix ix_tup (pv 5) pe_int (fun _ _ => rfl)) (pa_cons pe_int pa_nil)))) pa_nil))))) pa_nil))))
    (pss_cons (ps_set (i := 8) sc_law.nd rfl (Or.inl rfl) (pe_call (ok_locate_in_hull T TB) (hr.mono (by decide)) (by rfl) T.g_locate_in_hull T.F_locate_in_hull.kp T.b_locate_in_hull .nil pass0 (pa_cons (pv 2) (pa_cons (pv 4) pa_nil))))
    (pss_cons (ps_set (i := 9) sc_law.nd rfl (Or.inl rfl) (pe_call (ok_l_is_mixture T) (hr.mono (by decide)) (by rfl) T.g_l_is_mixture T.F_l_is_mixture.kp T.b_l_is_mixture .nil pass0 (pa_cons (pv 2) (pa_cons (pv 4) (pa_cons (pv 8) pa_nil)))))
    (pss_cons (ps_if (pt_cmpR op_eq (pv 9) (pe_call (ok_l_is_barrier T) (hr.mono (by decide)) (by rfl) T.g_l_is_barrier T.F_l_is_barrier.kp T.b_l_is_barrier .nil pass0 (pa_cons (pv 2) (pa_cons (pv 4) (pa_cons (pv 8) pa_nil)))) (nomark _))
    (pss_one (ps_ret pe_bl))
    pss_nil)
    (pss_cons (ps_set (i := 10) sc_law.nd rfl (Or.inl rfl) (pe_call (ok_l_hull T) (hr.mono (by decide)) (by rfl) T.g_l_hull T.F_l_hull.kp T.b_l_hull .nil pass0 (pa_cons (pv 2) pa_nil)))
    (pss_cons (ps_if (pt_cmpR op_ne (pv 9) (pe_cmpR (op_eqD hr.units) (pe_call (ok_l_hull T) (hr.mono (by decide)) (by rfl) T.g_l_hull T.F_l_hull.kp T.b_l_hull .nil pass0 (pa_cons (pe_op op_catA (pe_callTy call_tupleT (by rfl) T.z_tuple (by decide +kernel) (pa_cons (pv 2) pa_nil)) (pe_ifExp (pt_cmpR (op_notInTD (un65 hr)) (pv 4) (pv 2) (by rfl)) (pe_tup (pa_cons (pv 4) pa_nil)) (pe_tup pa_nil))) pa_nil)) (pv 10) (nomark _)) (nomark _))
    (pss_one (ps_ret pe_bl))
    pss_nil)
    (pss_cons (ps_par (i := 11) (j := 12) rfl sc_law.nd rfl rfl (by decide) rfl rfl (pa_cons (pe_call (ok_l_taken T) (hr.mono (by decide)) (by rfl) T.g_l_taken T.F_l_taken.kp T.b_l_taken .nil pass0 (pa_cons (pv 1) (pa_cons (pe_callB call_len_seq (by rfl) T.z_len (by decide +kernel) (pa_cons (pv 2) pa_nil)) pa_nil))) (pa_cons (pe_call (ok_l_signed T) (hr.mono (by decide)) (by rfl) T.g_l_signed T.F_l_signed.kp T.b_l_signed .nil pass0 (pa_cons (pv 1) (pa_cons pe_int pa_nil))) pa_nil)) (by rfl))
    (pss_cons (ps_set (i := 13) sc_law.nd rfl (Or.inl rfl) (pe_lst (pa_cons pe_non (pa_cons (pv 8) (pa_cons (pe_slice sl_tupA (pv 8) po_none (po_some (pe_un un_neg pe_int))) (pa_cons (pe_callTy call_list_of (by rfl) T.z_list (by decide +kernel) (pa_cons (pv 8) pa_nil)) (pa_cons (pe_tup (pa_cons (pe_ix ix_tup (pv 8) pe_int (fun _ _ => rfl)) pa_nil)) (pa_cons (pe_op op_catA (pv 8) (pe_tup (pa_cons pe_int pa_nil))) (pa_cons (pe_tup pa_nil) (pa_cons pe_dnewK (pa_cons (pe_tup (pa_cons pe_str (pa_cons (pe_tup (pa_cons (pv 11) pa_nil)) (pa_cons (pe_tup (pa_cons (pe_tup (pa_cons pe_int (pa_cons pe_int pa_nil))) pa_nil)) pa_nil)))) pa_nil)))))))))))
    (pss_cons (ps_set (i := 13) sc_law.nd rfl (Or.inl rfl) (pe_op op_cat (pv 13) (pe_lst (pa_cons (pe_tup (pa_cons pe_str (pa_cons (pv 12) (pa_cons (pe_call (ok_l_signed T) (hr.mono (by decide)) (by rfl) T.g_l_signed T.F_l_signed.kp T.b_l_signed .nil pass0 (pa_cons (pv 1) (pa_cons pe_int pa_nil))) (pa_cons (pe_call (ok_l_signed T) (hr.mono (by decide)) (by rfl) T.g_l_signed T.F_l_signed.kp T.b_l_signed .nil pass0 (pa_cons (pv 1) (pa_cons pe_int pa_nil))) pa_nil))))) (pa_cons (pe_tup (pa_cons pe_str (pa_cons (pe_lst (pa_cons (pv 11) pa_nil)) (pa_cons (pe_tup (pa_cons (pe_tup (pa_cons pe_int (pa_cons pe_int pa_nil))) pa_nil)) pa_nil)))) pa_nil)))))
    (pss_cons (ps_set (i := 13) sc_law.nd rfl (Or.inl rfl) (pe_op op_cat (pv 13) (pe_lst (pa_cons (pe_tup (pa_cons pe_str (pa_cons (pe_tup (pa_cons (pv 11) pa_nil)) (pa_cons (pe_tup (pa_cons (pe_tup (pa_cons pe_int (pa_cons pe_int pa_nil))) pa_nil)) pa_nil)))) pa_nil))))
    (pss_cons (ps_set (i := 13) sc_law.nd rfl (Or.inl rfl) (pe_op op_cat (pv 13) (pe_lst (pa_cons (pe_tup (pa_cons pe_str (pa_cons (pe_tup (pa_cons pe_bl pa_nil)) (pa_cons (pe_tup (pa_cons (pe_tup (pa_cons pe_int (pa_cons pe_int pa_nil))) pa_nil)) pa_nil)))) (pa_cons (pe_tup (pa_cons pe_str (pa_cons pe_bl (pa_cons pe_int (pa_cons pe_int pa_nil))))) (pa_cons (pe_tup (pa_cons pe_str (pa_cons (pe_tup pa_nil) (pa_cons (pe_tup pa_nil) pa_nil)))) (pa_cons (pe_tup (pa_cons (pe_lst (pa_cons pe_str pa_nil)) (pa_cons (pe_tup (pa_cons (pv 11) pa_nil)) (pa_cons (pe_tup (pa_cons (pe_tup (pa_cons pe_int (pa_cons pe_int pa_nil))) pa_nil)) pa_nil)))) pa_nil)))))))
    (pss_cons (ps_set (i := 13) sc_law.nd rfl (Or.inl rfl) (pe_op op_cat (pv 13) (pe_lst (pa_cons (pe_tup (pa_cons pe_str (pa_cons (pe_tup (pa_cons (pv 11) (pa_cons (pe_callB call_len_seq (by rfl) T.z_len (by decide +kernel) (pa_cons (pv 2) pa_nil)) pa_nil))) (pa_cons (pe_tup (pa_cons (pe_tup (pa_cons pe_int (pa_cons pe_int pa_nil))) (pa_cons (pe_tup (pa_cons pe_int (pa_cons pe_int pa_nil))) pa_nil))) pa_nil)))) (pa_cons (pe_tup (pa_cons pe_str (pa_cons (pe_tup (pa_cons (pv 11) pa_nil)) (pa_cons (pe_tup (pa_cons (pe_tup (pa_cons pe_int (pa_cons pe_int pa_nil))) (pa_cons (pe_tup (pa_cons pe_int (pa_cons pe_int pa_nil))) pa_nil))) pa_nil)))) pa_nil)))))
    (pss_cons (ps_set (i := 13) sc_law.nd rfl (Or.inl rfl) (pe_op op_cat (pv 13) (pe_lst (pa_cons (pe_tup (pa_cons pe_str (pa_cons pe_non (pa_cons pe_int (pa_cons pe_int pa_nil))))) pa_nil))))
    (pss_cons (ps_set (i := 13) sc_law.nd rfl (Or.inl rfl) (pe_op op_cat (pv 13) (pe_lst (pa_cons (pe_tup (pa_cons pe_str (pa_cons (pe_tupRg rfl (by rfl) T.z_tuple (prg_1 (by rfl) T.z_range (pe_callB (call_min2 rfl) (by rfl) T.z_min (by decide +kernel) (pa_cons pe_int (pa_cons (pe_callB call_len_seq (by rfl) T.z_len (by decide +kernel) (pa_cons (pv 2) pa_nil)) pa_nil))))) (pa_cons (pe_op op_repT1 (pe_tup (pa_cons (pe_tup (pa_cons pe_int (pa_cons pe_int pa_nil))) pa_nil)) (pe_callB (call_min2 rfl) (by rfl) T.z_min (by decide +kernel) (pa_cons pe_int (pa_cons (pe_callB call_len_seq (by rfl) T.z_len (by decide +kernel) (pa_cons (pv 2) pa_nil)) pa_nil)))) pa_nil)))) pa_nil))))
    (pss_one (ps_for PassesOwn.never rfl (pi_list (pe_lst (pa_cons (pv 8) (pa_cons (pe_tup (pa_cons pe_str (pa_cons (pe_tup (pa_cons (pe_index (un65 hr) (pv 2) (pa_cons (pv 5) pa_nil)) pa_nil)) (pa_cons (pe_tup (pa_cons (pe_tup (pa_cons pe_int (pa_cons pe_int pa_nil))) pa_nil)) pa_nil)))) (pa_cons (pe_call (ok_l_pick T) (hr.mono (by decide)) (by rfl) T.g_l_pick T.F_l_pick.kp T.b_l_pick .nil pass0 (pa_cons (pv 1) (pa_cons (pv 13) pa_nil))) (pa_cons (pe_call (ok_l_pick T) (hr.mono (by decide)) (by rfl) T.g_l_pick T.F_l_pick.kp T.b_l_pick .nil pass0 (pa_cons (pv 1) (pa_cons (pv 13) pa_nil))) pa_nil)))))) (pg_name (i := 14) sc_law.nd rfl (Or.inl rfl))
    (pss_cons (ps_set (i := 15) sc_law.nd rfl (Or.inl rfl) (pe_or (pe_call (ok_l_is_mixture T) (hr.mono (by decide)) (by rfl) T.g_l_is_mixture T.F_l_is_mixture.kp T.b_l_is_mixture .nil pass0 (pa_cons (pv 2) (pa_cons (pv 4) (pa_cons (pv 14) pa_nil)))) (pe_one (pe_call (ok_l_is_barrier T) (hr.mono (by decide)) (by rfl) T.g_l_is_barrier T.F_l_is_barrier.kp T.b_l_is_barrier .nil pass0 (pa_cons (pv 2) (pa_cons (pv 4) (pa_cons (pv 14) pa_nil)))))))
      (pss_one (ps_if (pt_not (pt_val (pe_call (ok_l_alike T) (hr.mono (by decide)) (by rfl) T.g_l_alike T.F_l_alike.kp T.b_l_alike .nil pass0 (pa_cons (pe_call (ok_shows_in_hull T) (hr.mono (by decide)) (by rfl) T.g_shows_in_hull T.F_shows_in_hull.kp T.b_shows_in_hull .nil pass0 (pa_cons (pv 2) (pa_cons (pv 4) (pa_cons (pv 14) pa_nil)))) (pa_cons (pv 15) pa_nil)))))
      (pss_one (ps_ret pe_bl))
      pss_nil)))))))))))))))))))))))
  (pss_one (ps_ret pe_bl)))))), ?_⟩
  rw [show L2.start nm_law [(.ref sa)] = [some (.ref sa), none, none, none, none, none, none, none, none, none, none, none, none, none, none, none] from rfl]
  -- the row of draws
  refine q_asgN (Z := Zt (tbx T).t) hw (en_lst' (vs := [.ref sa, .int 0, .int 3204, .int 0]) (ea_cons (ev_var rfl) (ea_cons ev_c (ea_cons ev_c (ea_cons ev_c ea_nil)))) (by simp)) fun ra H1 fr nr e1 ⟨hra, _⟩ => ?_
  have nsa : ∀ o, ns.so = some o → ¬ (Zt (tbx T).t).S sa := fun o ho ⟨q, hq', e⟩ => by
    obtain ⟨ps, h1, _⟩ := hw q hq'
    rw [← e, hso o ho] at h1
    cases h1
    exact ns.nt _ ho _ rfl
  have hne : ns.so ≠ none → ra ≠ sa := fun h z => by
    cases e : ns.so with
    | none => exact h e
    | some o =>
      obtain ⟨ps, hp⟩ := fr o (by rw [z]; exact hso o e)
      exact ns.nt o e ps hp
  have w1 : (Zr (tbx T) ra sa ns).W H1 := ⟨e1.w2, hne, fun o ho => e1.kq _ _ (nsa o ho) (ns.nt o ho) (hso o ho), 0, 3204, 0, by decide, by decide, by decide, hra⟩
  have fin : ∀ {H2}, Xt (Zr (tbx T) ra sa ns) H1 H2 → Q (.bl true) H2 := fun {H2} x => hq _ _ ⟨hw, x.w2.1, fun a o n t q => by
    by_cases h1 : a = ra
    · subst h1
      obtain ⟨ps, hp⟩ := fr o q
      exact absurd hp (t ps)
    · by_cases h2 : a = sa ∧ ns.so ≠ none
      · obtain ⟨rfl, h3⟩ := h2
        cases e : ns.so with
        | none => exact absurd e h3
        | some o' =>
          have k1 := hso o' e
          rw [q] at k1
          cases k1
          exact x.w2.2.2.1 o e
      · exact x.kq a o (fun s => s.elim n fun s => s.elim h1 h2) t (e1.kq a o n t q)⟩ rfl
  show tSeq _ _ _ [some (.ref sa), some (.ref ra), none, none, none, none, none, none, none, none, none, none, none, none, none, none] H1
  have tw : TabW (Zr (tbx T) ra sa ns) (tabs T) := Zr.tab (tbx T) ra sa ns
  -- the points
  refine q_asg (Z := (Zr (tbx T) ra sa ns)) (R := fun v H => ∃ L, SQ L ∧ FzD (Zr (tbx T) ra sa ns) (L.map ptD) v H) w1 (ev_callW (G := G_l_moved (tbx T)) (RA := fun us H3 => ∃ vl L, us = [.ref ra, vl] ∧ PQ L ∧ FzD (Zr (tbx T) ra sa ns) (L.map ptD) vl H3) (ea_consX (R := IsV (.ref ra)) (ev_var rfl) fun v1 H3 e3 h1 => ea_consX (R := fun v H3 => ∃ L, PQ L ∧ FzD (Zr (tbx T) ra sa ns) (L.map ptD) v H3) (ev_callW (G := G_l_points (tbx T)) (RA := fun us _ => ∃ m : Int, us = [.ref ra, .int 1, .int 6, .int m] ∧ 0 ≤ m ∧ m ≤ 5) (ea_consX (R := IsV (.ref ra)) (ev_var rfl) fun v2 H4 e4 h2 => ea_consX (R := IsV (.int 1)) ev_c fun v3 H5 e5 h3 => ea_consX (R := IsV (.int 6)) ev_c fun v4 H6 e6 h4 => ea_consX (ev_pickI [2, 5] (ev_var rfl) (ea_cons ev_c (ea_cons ev_c ea_nil)) (by decide) (by decide)) fun v5 H7 e7 ⟨m, hm, h5⟩ => ea_nilX fun H8 e8 => ⟨m, by rw [h2, h3, h4, h5], by simp at hm; omega, by simp at hm; omega⟩) fun us H4 e4 ⟨m, hu, m0, m5⟩ => ⟨_, ⟨ra, sa, ns, m, rfl, hu, m0, m5, rfl⟩, fun v H5 e5 h => h⟩) fun v6 H4 e4 ⟨L, pq, hL⟩ => ea_nilX fun H5 e5 => ⟨v6, L, by rw [h1], pq, hL.mono e5⟩) fun us H3 e3 ⟨vl, L, hu, pq, hf⟩ => ⟨_, ⟨ra, sa, ns, vl, L, rfl, hu, hf, pq, rfl⟩, fun v H5 e5 h => h⟩) fun vp H2 e2 ⟨L, sq, hf⟩ => ?_
  show tSeq _ _ _ [some (.ref sa), some (.ref ra), some vp, none, none, none, none, none, none, none, none, none, none, none, none, none] H2
  have pts := sq.pts
  have hok : ∀ q ∈ L, Ok q := fun q hq => (sq.ok q hq).1
  have hnm : ∀ q ∈ L, Nm q := fun q hq => (hok q hq).nm
  have hull := hullP_hull pts
  have hd := hf.da
  have l6 := sq.l6
  have l1 := sq.l1
  have hlh := hull_len pts
  refine q_when (Z := (Zr (tbx T) ra sa ns)) (b := false) (by walk_at "w") (et_is (et_not (et_test (ev_alk_pts (ev_hull tw (ev_var rfl) hd pts) (ev_l_hull (ev_var rfl) hd hok sq.nd (by omega) hull) (by omega)))) rfl) (fun h => by cases h) (fun _ H3 e3 => ?_)
  have hf := hf.mono e3
  have hd := hd.mono e3
  have e13 := e2.trans e3
  refine q_forR1 (Z := (Zr (tbx T) ra sa ns)) (n := 3) (by walk_at "w") (ea_cons ev_c ea_nil) ⟨by omega, by omega⟩ (fun i σ' H' => ∃ y3 y4 y5 y6 y7 y8 y9 y10 y11 y12 y13 y14 y15 : Option V, σ' = [some (.ref sa), some (.ref ra), some vp, y3, y4, y5, y6, y7, y8, y9, y10, y11, y12, y13, y14, y15] ∧ Xt (Zr (tbx T) ra sa ns) H3 H') (fun H4 e4 => ⟨none, none, none, none, none, none, none, none, none, none, none, none, none, rfl, e4⟩) (fun i σ' H4 hi ⟨y3, y4, y5, y6, y7, y8, y9, y10, y11, y12, y13, y14, y15, es, e4⟩ => ?_) (fun σ' H4 ⟨y3, y4, y5, y6, y7, y8, y9, y10, y11, y12, y13, y14, y15, es, e4⟩ => ?_)
  · subst es
    show tSeq _ _ _ [some (.ref sa), some (.ref ra), some vp, some (.int (i : Int)), y4, y5, y6, y7, y8, y9, y10, y11, y12, y13, y14, y15] H4
    have hf4 := hf.mono e4
    have hd4 := hd.mono e4
    have w4 := e4.w2
    clear hd hf hq
    -- a point
    refine q_asg (Z := (Zr (tbx T) ra sa ns)) (R := OkR (Zr (tbx T) ra sa ns)) w4 (ev_pickL OkR.mono (ev_var rfl) (ea_consL OkR.mono ((ev_pickP (ev_var rfl) (ev_var rfl) hd4 l1 (by omega)).imp fun x H5 e5 ⟨p, h1, h2⟩ => ⟨p, h1, hok p h2⟩) (ea_consL OkR.mono ((ev_point (ev_var rfl) ev_c (by decide) (by decide)).imp fun x H5 e5 ⟨p, h1, h2⟩ => ⟨p, h1, h2.1⟩) (ea_consL OkR.mono ((ev_point (ev_var rfl) ev_c (by decide) (by decide)).imp fun x H5 e5 ⟨p, h1, h2⟩ => ⟨p, h1, h2.1⟩) ea_nilL))) (by decide) (by decide)) fun vq H5 e5 rq => ?_
    show tSeq _ _ _ [some (.ref sa), some (.ref ra), some vp, some (.int (i : Int)), some vq, y5, y6, y7, y8, y9, y10, y11, y12, y13, y14, y15] H5
    refine q_par (Z := (Zr (tbx T) ra sa ns)) (by walk_at "w") (RA := fun us H6 => ∃ va vb a b, us = [va, vb] ∧ P3 (Zr (tbx T) ra sa ns) va a H6 ∧ P3 (Zr (tbx T) ra sa ns) vb b H6 ∧ a ∈ L ∧ b ∈ L) (ea_consX (ev_pickP (ev_var rfl) (ev_var rfl) (hd4.mono e5) l1 (by omega)) fun va H6 e6 ⟨a, pa, ha⟩ => ea_consX (ev_pickP (ev_var rfl) (ev_var rfl) (hd4.mono (e5.trans e6)) l1 (by omega)) fun vb H7 e7 ⟨b, pb, hb⟩ => ea_nilX fun H8 e8 => ⟨va, vb, a, b, rfl, pa.mono (e7.trans e8), pb.mono e8, ha, hb⟩) fun us H6 e6 ⟨va, vb, a, b, hus, pa, pb, ha, hb⟩ => ⟨_, _, hus, ?_⟩
    show tSeq _ _ _ [some (.ref sa), some (.ref ra), some vp, some (.int (i : Int)), some vq, some va, some vb, y7, y8, y9, y10, y11, y12, y13, y14, y15] H6
    obtain ⟨oa, a1, a2, a3, a4, a5⟩ := sq.ok a ha
    obtain ⟨ob, b1, b2, b3, b4, b5⟩ := sq.ok b hb
    have bB2 : B 64 (2 : Int) := bS (by decide)
    have c1 : CMulW 2 a.x := B.cmul bB2 oa.nm.x (by decide)
    have c2 : CMulW 2 a.y := B.cmul bB2 oa.nm.y (by decide)
    have eL : LG = 1000000000000 := rfl
    have low : ∀ {x y w : Int}, 1 ≤ w → w ≤ 2 → -20000000000 ≤ x ∧ x ≤ 20000000000 → -20000000000 ≤ y ∧ y ≤ 20000000000 → Ok (lowP x y w) := fun {x y w} h1 h2 h3 h4 => lowP_ok (by omega) (by omega) (by omega) (by omega)
    refine q_asg (Z := (Zr (tbx T) ra sa ns)) (by walk_at "w") (ev_l_lowest (x := 2 * a.x - b.x) (y := 2 * a.y - b.y) (w := 1) (by walk_at "ev") (by walk_at "ev") ev_c (by decide) (bS (by decide))) fun vfar H7 e7 pfar => ?_
    show tSeq _ _ _ [some (.ref sa), some (.ref ra), some vp, some (.int (i : Int)), some vq, some va, some vb, some vfar, y8, y9, y10, y11, y12, y13, y14, y15] H7
    have pa7 := pa.mono e7
    have pb7 := pb.mono e7
    have e57 := e6.trans e7
    refine q_asg (Z := (Zr (tbx T) ra sa ns)) (R := OkR (Zr (tbx T) ra sa ns)) (by walk_at "w") (ev_pickL OkR.mono (ev_var rfl) (ea_consL OkR.mono ((ev_var (i := 4) rfl).imp fun x H8 e8 h => by
      subst h
      exact rq.mono (e57.trans e8)) (ea_consL OkR.mono ((ev_l_lowest (x := a.x + b.x) (y := a.y + b.y) (w := 2) (by walk_at "ev") (by walk_at "ev") ev_c (by decide) bB2).imp fun x H8 e8 h => ⟨_, h, low (by decide) (by decide) (by omega) (by omega)⟩) (ea_consL OkR.mono ((ev_var (i := 7) rfl).imp fun x H8 e8 h => by
      subst h
      exact ⟨_, pfar.mono e8, low (by decide) (by decide) (by omega) (by omega)⟩) (ea_consL OkR.mono ((ev_l_lowest (x := a.x) (y := a.y) (w := 2) (by walk_at "ev") (by walk_at "ev") ev_c (by decide) bB2).imp fun x H8 e8 h => ⟨_, h, low (by decide) (by decide) (by omega) (by omega)⟩) ea_nilL)))) (by decide) (by decide)) fun vq2 H8 e8 ⟨p, pp, op⟩ => ?_
    show tSeq _ _ _ [some (.ref sa), some (.ref ra), some vp, some (.int (i : Int)), some vq2, some va, some vb, some vfar, y8, y9, y10, y11, y12, y13, y14, y15] H8
    have e48 := e5.trans (e57.trans e8)
    have hf8 := hf4.mono e48
    have hd8 := hf8.da
    have pa8 := pa7.mono e8
    have x8 : Xt (Zr (tbx T) ra sa ns) H3 H8 := e4.trans e48
    clear e57 e48 pfar pb7 pa7 rq pa pb c1 c2 low hf4 hd4 w4 e8 e7 e6 e5 e4
    -- the value
    refine q_asg (Z := (Zr (tbx T) ra sa ns)) (by walk_at "w") (ev_locate_in_hull tw (ev_var rfl) (ev_var rfl) hd8 pp pts op) fun vv H9 e9 r9 => ?_
    show tSeq _ _ _ [some (.ref sa), some (.ref ra), some vp, some (.int (i : Int)), some vq2, some va, some vb, some vfar, some vv, y9, y10, y11, y12, y13, y14, y15] H9
    obtain ⟨vs, inn, vq, hv, hinn, hlm, hlb⟩ := r9.val
    have hd9 := hd8.mono e9
    have pp9 := pp.mono e9
    refine q_asg (Z := (Zr (tbx T) ra sa ns)) (R := IsV (.bl inn)) (by walk_at "w") (ev_is (ev_l_is_mixture (ev_var rfl) (ev_var rfl) (ev_var rfl) hd9 pp9 hnm l1 (by omega) op.nm hv vq.good.f) (by rw [hlm])) fun vi H10 e10 r10 => ?_
    subst r10
    show tSeq _ _ _ [some (.ref sa), some (.ref ra), some vp, some (.int (i : Int)), some vq2, some va, some vb, some vfar, some vv, some (.bl inn), y10, y11, y12, y13, y14, y15] H10
    refine q_when (Z := (Zr (tbx T) ra sa ns)) (b := false) (by walk_at "w") (et_is (et_test (ev_eq (ev_var rfl) (ev_l_is_barrier (ev_var rfl) (ev_var rfl) (ev_var rfl) (hd9.mono e10) (pp9.mono e10) hnm l1 (by omega) op.nm (hv.mono e10) vq.good.f vq.good.o) rfl)) (by rw [hlb]; cases inn <;> decide)) (fun h => by cases h) (fun _ H11 e11 => ?_)
    have e911 := e10.trans e11
    have hd11 := hd9.mono e911
    refine q_asg (Z := (Zr (tbx T) ra sa ns)) (by walk_at "w") (ev_l_hull (ev_var rfl) hd11 hok sq.nd (by omega) hull) fun vc H12 e12 r12 => ?_
    show tSeq _ _ _ [some (.ref sa), some (.ref ra), some vp, some (.int (i : Int)), some vq2, some va, some vb, some vfar, some vv, some (.bl inn), some vc, y11, y12, y13, y14, y15] H12
    have e912 := e911.trans e12
    have hd12 := hd9.mono e912
    have pp12 := pp9.mono e912
    have hcm : ∀ C : List Pt, sm 10 (.tuple (C.map ptD)) := fun C => (sm_pts C).mono (by decide)
    have hcn : ∀ C : List Pt, nod (.tuple (C.map ptD)) = true := fun C => by rw [nod]; exact pts_nod C
    have cond : ∃ (es : List PyData) (L' C' : List Pt), L.map ptD ++ es = L'.map ptD ∧ es.length ≤ 1 ∧ (∀ q ∈ L', Ok q) ∧ L'.Nodup ∧ L'.length ≤ 20 ∧ IsHull C' L' ∧ decide (C' = hullP L) = inn ∧ (if p ∈ L then es = [] else es = [ptD p]) := by
      by_cases hp : p ∈ L
      · refine ⟨[], L, hullP L, List.append_nil _, by simp, hok, sq.nd, by omega, hull, ?_, by rw [if_pos hp]⟩
        rw [decide_eq_true rfl]
        exact (hinn.mpr (mem_reg hull hok hp)).symm
      · have hm : ∀ q, q ∈ L ++ [p] ↔ q ∈ L ∨ q = p := fun q => by simp
        have ok' : ∀ q ∈ L ++ [p], Ok q := fun q hq => by
          rcases (hm q).mp hq with h | rfl
          · exact hok q h
          · exact op
        have nd' : (L ++ [p]).Nodup := List.nodup_append.mpr ⟨sq.nd, by simp, fun a ha b hb e => by
          rcases List.mem_singleton.mp hb with rfl
          exact hp (e ▸ ha)⟩
        have ll : (L ++ [p]).length = L.length + 1 := by simp
        have pts' : Pts (L ++ [p]) := ⟨ok', nd', by omega, by omega⟩
        cases hi : inn with
        | true => exact ⟨[ptD p], L ++ [p], hullP L, by simp, by simp, ok', nd', by omega, reg_join hok op hull (hinn.mp hi) hm, decide_eq_true rfl, by rw [if_neg hp]⟩
        | false =>
          refine ⟨[ptD p], L ++ [p], hullP (L ++ [p]), by simp, by simp, ok', nd', by omega, hullP_hull pts', decide_eq_false fun h => ?_, by rw [if_neg hp]⟩
          have h2 := hullP_hull pts'
          rw [h] at h2
          have := hinn.mpr (mem_reg h2 ok' ((hm p).mpr (.inr rfl)))
          rw [hi] at this
          cases this
    obtain ⟨es, L', C', hes, hes1, hok', hnd', hl', hull', hdec, hif⟩ := cond
    refine q_when (Z := (Zr (tbx T) ra sa ns)) (b := false) (by walk_at "w") (et_is (et_test (ev_ne (ev_var rfl) (ev_is (ev_eqDD (ev_l_hullX (L := L') (by
      rw [← hes]
      exact ev_catT (ev_tupT (ev_da (ev_var rfl) hd12)) (ev_if (b := decide (p ∉ L)) (et_test (ev_is (ev_notInTD (ds := L.map ptD) (ev_da (ev_var rfl) pp12.da) (ev_da (ev_var rfl) hd12) (ptD_nod p) (pts_nod L) (ptD_sh p) ((sm_pts L).sh (by decide))) (by rw [any_ptD, decide_not]))) (fun h => by
        rw [if_neg (of_decide_eq_true h)] at hif
        rw [hif]
        exact ev_t1 (ev_da (ev_var rfl) pp12.da)) (fun h => by
        rw [if_pos (Classical.not_not.mp (of_decide_eq_false h))] at hif
        rw [hif]
        exact ev_t0)) (by rw [List.length_map]; omega)) hok' hnd' hl' hull') (ev_da (ev_var rfl) r12) (hcn _) (hcn _) ((hcm _).sh (by decide)) ((hcm _).sh (by decide))) (by rw [eqv_pts, hdec])) rfl)) (by simp)) (fun h => by cases h) (fun _ H13 e13' => ?_)
    have e913 := e912.trans e13'
    have hd13 := hd9.mono e913
    have hf13 := hf8.mono (e9.trans e913)
    have pp13 := pp9.mono e913
    have hv13 := hv.mono e913
    have pa13 := pa8.mono (e9.trans e913)
    have x13 := x8.trans (e9.trans e913)
    clear e13' e912 e911 hd12 pp12 hd11 e12 e11 e10 e9 hd9 pp9 hv hd8 hf8 pa8 x8 hes hes1 hok' hnd' hl' hull' hdec hif r12 r9 pp
    -- the odd values
    have hlen : ∀ {H5}, Xt (Zr (tbx T) ra sa ns) H13 H5 → ∀ {σ te}, Ev (Zr (tbx T) ra sa ns) te σ H5 (IsV vp) → Ev (Zr (tbx T) ra sa ns) (tCB (rLen K) (tCons te tNil)) σ H5 (IsV (.int (L.length : Int))) := fun {H5} e {σ te} h => by
      obtain ⟨xs, hx, hxs⟩ := (hd13.mono e).tupE
      exact ev_is (ev_lenT h hx) (by rw [hxs.length, List.length_map])
    have xr : Xt (Zr (tbx T) ra sa ns) H13 H13 := .refl x13.w2
    refine q_par (Z := (Zr (tbx T) ra sa ns)) (by walk_at "w") (RA := fun us _ => ∃ k n : Int, us = [.int k, .int n] ∧ 0 ≤ k ∧ k < (L.length : Int) ∧ -3 ≤ n ∧ n ≤ 3) (ea_consX (ev_taken (n := (L.length : Int)) (ev_var rfl) (hlen xr (ev_var rfl)) (by omega) (bS (by omega))) fun v1 H14 e14 ⟨k, hk, k0, k1⟩ => ea_consX (ev_signed (m := 3) (ev_var rfl) ev_c (by decide) (by decide)) fun v2 H15 e15 ⟨n, hn, n0, n1⟩ => ea_nilX fun H16 e16 => ⟨k, n, by rw [hk, hn], k0, k1, n0, n1⟩) fun us H14 e14 ⟨k, n, hus, k0, k1, n0, n1⟩ => ⟨_, _, hus, ?_⟩
    show tSeq _ _ _ [some (.ref sa), some (.ref ra), some vp, some (.int (i : Int)), some vq2, some va, some vb, some vfar, some vv, some (.bl inn), some vc, some (.int k), some (.int n), y13, y14, y15] H14
    obtain ⟨ys, hy, hys⟩ := (hv13.mono e14).tupE
    obtain ⟨y0, d0, hy0, hd0, dv0⟩ : ∃ y0 d0, atI ys 0 = some y0 ∧ d0 ∈ vs ∧ Da (Zr (tbx T) ra sa ns) H14 y0 d0 := by
      have hvl := vq.l1
      obtain ⟨d0, h0⟩ : ∃ d0, vs[0]? = some d0 := ⟨vs[0], List.getElem?_eq_getElem (by omega)⟩
      obtain ⟨y0, h1, h2⟩ := hys.get h0
      exact ⟨y0, d0, by rw [show (0 : Int) = ((0 : Nat) : Int) from rfl]; exact atI_nat h1, List.mem_of_getElem? h0, h2⟩
    have hv14 := hv13.mono e14
    have vl2 := vq.l2
    have inK : ∀ {H5 σ}, σ[11]? = some (some (.int k)) → Ev (Zr (tbx T) ra sa ns) (tTup (tCons (tVar 11) tNil)) σ H5 (DaR (Zr (tbx T) ra sa ns) (.tuple [.int k])) := fun {H5 σ} h => ev_t1 (ev_da (ev_var h) (.int k))
    refine q_asg (Z := (Zr (tbx T) ra sa ns)) (R := OddR (Zr (tbx T) ra sa ns) 9) (by walk_at "w") (ev_oddL (ea_consG (ev_gd (ev_da ev_c .non) (good_of rfl)) (ea_consG (ev_gd (ev_da (ev_var rfl) hv14) vq.good) (ea_consG (ev_gd (ev_slD (ev_var rfl) hv14 (ev_is (ev_neg ev_c) rfl)) vq.goodD) (ea_consG (ev_gd (ev_listOfD (ev_da (ev_var rfl) hv14)) (good_of rfl)) (ea_consG (ev_gd (ev_t1 (ev_da (ev_ixT (ev_var rfl) hy ev_c hy0) dv0)) (good_tup fun e he => by
      rcases List.mem_singleton.mp he with rfl
      exact vq.f _ hd0)) (ea_consG (ev_gd (ev_catT (ev_da (ev_var rfl) hv14) (ev_t1 ev_ci) (by simp; omega)) vq.good0) (ea_consG (ev_gd ev_t0 (good_tup fun e he => nomatch he)) (ea_consG (ev_gd ev_dictE (good_of rfl)) (ea_consG (ev_gd (ev_t3 ev_cs (inK rfl) (ev_t1 ev_pairC)) (good_in (fits1 fJ0) (fits1 (f1W (by decide) (by decide))))) ea_nilG))))))))) (by decide)) fun vo H15 e15 ro => ?_
    show tSeq _ _ _ [some (.ref sa), some (.ref ra), some vp, some (.int (i : Int)), some vq2, some va, some vb, some vfar, some vv, some (.bl inn), some vc, some (.int k), some (.int n), some vo, y14, y15] H15
    refine q_asg (Z := (Zr (tbx T) ra sa ns)) (R := OddR (Zr (tbx T) ra sa ns) 11) (by walk_at "w") (ev_oddC (m := 9) (n := 2) (ev_oddV (ev_var rfl) ro) (ev_oddL (ea_consG (EvN.ev (en_tup (RA := fun us _ => ∃ a b : Int, us = [.str sOut, .int n, .int a, .int b] ∧ (-2 ≤ a ∧ a ≤ 2) ∧ -9 ≤ b ∧ b ≤ 9) (ea_consX (R := IsV (.str sOut)) ev_c fun v1 H16 e16 h1 => ea_consX (R := IsV (.int n)) (ev_var rfl) fun v2 H17 e17 h2 => ea_consX (ev_signed (m := 2) (ev_var rfl) ev_c (by decide) (by decide)) fun v3 H18 e18 ⟨a, h3, a0, a1⟩ => ea_consX (ev_signed (m := 9) (ev_var rfl) ev_c (by decide) (by decide)) fun v4 H19 e19 ⟨b, h4, b0, b1⟩ => ea_nilX fun H20 e20 => ⟨a, b, by rw [h1, h2, h3, h4], ⟨a0, a1⟩, b0, b1⟩) (fun us H1 ⟨_, _, h, _⟩ => by rw [h]; simp)) fun q H16 e16 _ ⟨us, H17, ⟨a, b, hu, ha', hb'⟩, _, _, hq1, hq2⟩ => ⟨_, good_out (fjI (i := n) (by omega)) (fjI (i := a) (by omega)) (fjI (i := b) (by omega)), .tup ⟨.inl (by rw [hq1, hu])⟩ hq2 (.cons (.str _) (.cons (.int _) (.cons (.int _) (.cons (.int _) .nil))))⟩)
      (ea_consG (ev_gd (ev_t3 ev_cs (ev_l1 (ev_da (ev_var rfl) (.int k))) (ev_t1 ev_pairC)) (good_tup3 fj_in.i (fi_lst (fits1 fJ0)) (fj_tup (fits1 (f1W (by decide) (by decide)))).i)) ea_nilG)) (by decide)) (by decide)) fun vo H16 e16 ro => ?_
    show tSeq _ _ _ [some (.ref sa), some (.ref ra), some vp, some (.int (i : Int)), some vq2, some va, some vb, some vfar, some vv, some (.bl inn), some vc, some (.int k), some (.int n), some vo, y14, y15] H16
    refine q_asg (Z := (Zr (tbx T) ra sa ns)) (R := OddR (Zr (tbx T) ra sa ns) 12) (by walk_at "w") (ev_oddC (m := 11) (n := 1) (ev_oddV (ev_var rfl) ro) (ev_oddL (ea_consG (ev_gd (ev_t3 ev_cs (inK rfl) (ev_t1 ev_pairC)) (good_in (fits1 fJ0) (fits1 (f1W (by decide) (by decide))))) ea_nilG) (by decide)) (by decide)) fun vo H17 e17 ro => ?_
    show tSeq _ _ _ [some (.ref sa), some (.ref ra), some vp, some (.int (i : Int)), some vq2, some va, some vb, some vfar, some vv, some (.bl inn), some vc, some (.int k), some (.int n), some vo, y14, y15] H17
    refine q_asg (Z := (Zr (tbx T) ra sa ns)) (R := OddR (Zr (tbx T) ra sa ns) 16) (by walk_at "w") (ev_oddC (m := 12) (n := 4) (ev_oddV (ev_var rfl) ro) (ev_oddL (ea_consG (ev_gd (ev_t3 ev_cs (ev_t1 (ev_da ev_c (.bl true))) (ev_t1 ev_pairC)) (good_in (fits1 fitJ_bool) (fits1 (f1W (by decide) (by decide)))))
      (ea_consG (ev_gd (ev_t4 ev_cs (ev_da ev_c (.bl true)) ev_ci ev_ci) (good_out fj_bool (fjI (by decide)) (fjI (by decide))))
      (ea_consG (ev_gd (ev_t3 ev_cs ev_t0 ev_t0) (good_in fits0 fits0))
      (ea_consG (ev_gd (ev_t3 (ev_l1 ev_cs) (inK rfl) (ev_t1 ev_pairC)) (good_tup3 (fi_lst (fits1 ⟨by simp [noL], by simp [nod], (sm_str 3 (by decide +kernel)), (fun _ _ h => nomatch h)⟩)) (fj_tup (fits1 fJ0)).i (fj_tup (fits1 (f1W (by decide) (by decide)))).i)) ea_nilG)))) (by decide)) (by decide)) fun vo H18 e18 ro => ?_
    show tSeq _ _ _ [some (.ref sa), some (.ref ra), some vp, some (.int (i : Int)), some vq2, some va, some vb, some vfar, some vv, some (.bl inn), some vc, some (.int k), some (.int n), some vo, y14, y15] H18
    have e1318 := e14.trans (e15.trans (e16.trans (e17.trans e18)))
    refine q_asg (Z := (Zr (tbx T) ra sa ns)) (R := OddR (Zr (tbx T) ra sa ns) 18) (by walk_at "w") (ev_oddC (m := 16) (n := 2) (ev_oddV (ev_var rfl) ro) (ev_oddL (ea_consG (ev_gd (ev_t3 ev_cs (ev_t2 (ev_da (ev_var rfl) (.int k)) (ev_da (hlen e1318 (ev_var rfl)) (.int _))) (ev_t2 ev_pairC ev_pairC)) (good_in (fits2 fJ0 fJ0) (fits2 (f1W (by decide) (by decide)) (f1W (by decide) (by decide)))))
      (ea_consG (ev_gd (ev_t3 ev_cs (inK rfl) (ev_t2 ev_pairC ev_pairC)) (good_in (fits1 fJ0) (fits2 (f1W (by decide) (by decide)) (f1W (by decide) (by decide))))) ea_nilG)) (by decide)) (by decide)) fun vo H19 e19 ro => ?_
    show tSeq _ _ _ [some (.ref sa), some (.ref ra), some vp, some (.int (i : Int)), some vq2, some va, some vb, some vfar, some vv, some (.bl inn), some vc, some (.int k), some (.int n), some vo, y14, y15] H19
    refine q_asg (Z := (Zr (tbx T) ra sa ns)) (R := OddR (Zr (tbx T) ra sa ns) 19) (by walk_at "w") (ev_oddC (m := 18) (n := 1) (ev_oddV (ev_var rfl) ro) (ev_oddL (ea_consG (ev_gd (ev_t4 ev_cs (ev_da ev_c .non) ev_ci ev_ci) (good_out fj_non (fjI (by decide)) (fjI (by decide)))) ea_nilG) (by decide)) (by decide)) fun vo H20 e20 ro => ?_
    show tSeq _ _ _ [some (.ref sa), some (.ref ra), some vp, some (.int (i : Int)), some vq2, some va, some vb, some vfar, some vv, some (.bl inn), some vc, some (.int k), some (.int n), some vo, y14, y15] H20
    have e1320 := e1318.trans (e19.trans e20)
    have mn : (min 2 (L.length : Int)) = ((min 2 L.length : Nat) : Int) := by omega
    refine q_asg (Z := (Zr (tbx T) ra sa ns)) (R := OddR (Zr (tbx T) ra sa ns) 20) (by walk_at "w") (ev_oddC (m := 19) (n := 1) (ev_oddV (ev_var rfl) ro) (ev_oddL (ea_consG (ev_gd (ev_t3 ev_cs (ev_tupRg (n := min 2 L.length) (ev_is (ev_min2' ev_c (hlen e1320 (ev_var rfl))) (by rw [mn])) (by omega)) (ev_rep1 (k := ((min 2 L.length : Nat) : Int)) (ev_t1 ev_pairC) (ev_is (ev_min2' ev_c (hlen e1320 (ev_var rfl))) (by rw [mn])) (by simp) (by simp) (by omega))) (good_in fits_ints (by
      split
      · exact fits1 (f1W (by decide) (by decide))
      · exact fits2 (f1W (by decide) (by decide)) (f1W (by decide) (by decide))))) ea_nilG) (by decide)) (by decide)) fun vo H21 e21 ro => ?_
    show tFor _ _ _ _ [some (.ref sa), some (.ref ra), some vp, some (.int (i : Int)), some vq2, some va, some vb, some vfar, some vv, some (.bl inn), some vc, some (.int k), some (.int n), some vo, y14, y15] H21
    have e1321 := e1320.trans e21
    have hd21 := hd13.mono e1321
    have hf21 := hf13.mono e1321
    have pp21 := pp13.mono e1321
    have hv21 := hv13.mono e1321
    have pa21 := pa13.mono e1321
    have x21 := x13.trans e1321
    have w21 := x21.w2
    clear e1321 e21 e1320 e1318 e20 e19 e18 e17 e16 e15 e14 hlen hd13 hf13 pp13 hv13 pa13 x13 hv14 hy hys dv0 hy0 hd0 inK
    -- the values that are judged
    refine s_forNL (Z := (Zr (tbx T) ra sa ns)) (RN := OddR (Zr (tbx T) ra sa ns) 4) w21 (ev_oddL (ea_consG (ev_gd (ev_da (ev_var rfl) hv21) vq.good) (ea_consG (EvN.ev (en_tup (RA := fun us H5 => ∃ (v1 v2 : V) (j : Nat), us = [.str sIn, v1, v2] ∧ Da (Zr (tbx T) ra sa ns) H5 v1 (.tuple [.int (j : Int)]) ∧ Da (Zr (tbx T) ra sa ns) H5 v2 (.tuple [oneW 1 2])) (ea_consX (R := IsV (.str sIn)) ev_c fun v0 H5 e5 h0 => ea_consX (R := fun v1 H6 => ∃ j : Nat, Da (Zr (tbx T) ra sa ns) H6 v1 (.tuple [.int (j : Int)])) (EvN.ev (en_tup (RA := fun us _ => ∃ j : Nat, us = [.int (j : Int)]) (ea_consX (ev_idx (ev_var rfl) (hf21.mono e5) (ev_var rfl) (pa21.mono e5) ha) fun v1 H6 e6 ⟨j, hj, _⟩ => ea_nilX fun H7 e7 => ⟨j, by rw [hj]⟩) (fun us H1 ⟨_, h⟩ => by rw [h]; simp)) fun q H6 e6 _ ⟨us, H7, ⟨j, hu⟩, _, _, hq1, hq2⟩ => ⟨j, .tup ⟨.inl (by rw [hq1, hu])⟩ hq2 (.cons (.int _) .nil)⟩) fun v1 H6 e6 ⟨j, hj⟩ => ea_consX (ev_t1 ev_pairC) fun v2 H7 e7 h2 => ea_nilX fun H8 e8 => ⟨v1, v2, j, by rw [h0], hj.mono (e7.trans e8), h2.mono e8⟩) (fun us H1 ⟨_, _, _, h, _⟩ => by rw [h]; simp)) fun q H5 e5 _ ⟨us, H6, ⟨v1, v2, j, hu, h1, h2⟩, _, e6, hq1, hq2⟩ => ⟨_, good_in (fits1 fJ0) (fits1 (f1W (by decide) (by decide))), .tup ⟨.inl (by rw [hq1, hu])⟩ hq2 (.cons (.str _) (.cons (h1.mono e6) (.cons (h2.mono e6) .nil)))⟩)
      (ea_consG (ev_pickO (ev_var rfl) (ev_var rfl) ro (by decide) (by decide)) (ea_consG (ev_pickO (ev_var rfl) (ev_var rfl) ro (by decide) (by decide)) ea_nilG)))) (by decide)) fun x H22 e22 ⟨ds, hg, hdl, hdx⟩ => ?_
    obtain ⟨xs, hx, hxs⟩ := hdx.lstE
    refine ⟨xs, hx, fun m σ' H' => ∃ y14 y15 : Option V, σ' = [some (.ref sa), some (.ref ra), some vp, some (.int (i : Int)), some vq2, some va, some vb, some vfar, some vv, some (.bl inn), some vc, some (.int k), some (.int n), some vo, y14, y15] ∧ Xt (Zr (tbx T) ra sa ns) H22 H', ⟨y14, y15, rfl, .refl e22.w2⟩, fun m σ' H' ⟨_, _, _, e⟩ => hx.mono e, fun m y σ' H23 hy ⟨y14, y15, es', e23⟩ => ?_, fun σ' H23 ⟨y14, y15, es', e23⟩ => ⟨_, _, _, _, _, _, _, _, _, _, _, _, _, es', x21.trans (e22.trans e23)⟩⟩
    subst es'
    show tSeq _ _ _ [some (.ref sa), some (.ref ra), some vp, some (.int (i : Int)), some vq2, some va, some vb, some vfar, some vv, some (.bl inn), some vc, some (.int k), some (.int n), some vo, some y, y15] H23
    obtain ⟨d, hd', hdy⟩ := hxs.getV hy
    have g := hg d (List.mem_of_getElem? hd')
    have e2223 := e22.trans e23
    have hdy := hdy.mono e23
    have hd23 := hd21.mono e2223
    have pp23 := pp21.mono e2223
    refine q_asg (Z := (Zr (tbx T) ra sa ns)) (R := IsV (.bl (lmB L p d || lbB L p d))) (by walk_at "w") (ev_orV (ev_l_is_mixture (ev_var rfl) (ev_var rfl) (ev_var rfl) hd23 pp23 hnm l1 (by omega) op.nm hdy g.f) fun _ => ev_l_is_barrier (ev_var rfl) (ev_var rfl) (ev_var rfl) hd23 pp23 hnm l1 (by omega) op.nm hdy g.f g.o) fun vd H24 e24 r24 => ?_
    subst r24
    show tIfS _ _ _ _ [some (.ref sa), some (.ref ra), some vp, some (.int (i : Int)), some vq2, some va, some vb, some vfar, some vv, some (.bl inn), some vc, some (.int k), some (.int n), some vo, some y, some (.bl (lmB L p d || lbB L p d))] H24
    exact s_when (Z := (Zr (tbx T) ra sa ns)) (b := false) (by walk_at "w") (et_is (et_not (et_B (ev_alk_bool (ev_shows (ev_var rfl) (ev_var rfl) (ev_var rfl) (hd23.mono e24) (pp23.mono e24) pts op (hdy.mono e24) g.f) (ev_var rfl)))) (by rw [show_or, decide_eq_true rfl]; rfl)) (fun h => by cases h) (fun _ H25 e25 => ⟨_, _, rfl, e23.trans (e24.trans e25)⟩)
  · subst es
    exact s_ret (Z := (Zr (tbx T) ra sa ns)) e4.w2 ev_c fun v5 H5 e5 r5 => by
      rw [r5]
      exact fin (e13.trans (e4.trans e5))
end
end Hk
/-! ## F30 -/
/-! the end: what the top leaves, and the law at the head's heap -/
namespace Hk
open PySem PySem.Spec PyProof.Rows L2
def DefAt (K : PySem.W.Frag) (n : Str) (st : Stmt) : Prop := ∃ (f : Addr) (fd : FuncData), PySem.W.nsIn K mainGlobals n = some (some (.ref f)) ∧ Fun K n n st f fd
theorem defAt {K : PySem.W.Frag} {n : Str} {st : Stmt} {f : Addr} {oc : Value} {od an : Option Addr} {osl : Array (Option Value)} {kV doc pm cdv ct : Value} (a : PySem.W.nsIn K mainGlobals n = some (some (.ref f))) (l : K.lookup f = some ⟨oc, od, .func (PySem.W.fnOf n n (defArgs st) (defBody st) (defScope st) .none kV doc pm an cdv ct), osl⟩)
    (c : PySem.W.codeIn K cdv n = true) (k : PySem.W.keepIn K (.ref f) = true) : DefAt K n st := ⟨f, _, a, fun_mk l c k⟩
/-- ranked, its code and the table of that -/
def RankAt (K : PySem.W.Frag) (P : Addr) : Prop := ∃ (f : Addr) (fd : FuncData) (c : Addr), PySem.W.nsIn K mainGlobals "ranked" = some (some (.ref f)) ∧ Fun K "ranked" "ranked" s_ranked f fd ∧ FunC K "ranked" "ranked" s_ranked f fd c ∧ PySem.W.codeHdIn K c P = true ∧ K.lookup P = none
theorem rankAt {K : PySem.W.Frag} {P : Addr} {f c : Addr} {oc : Value} {od an : Option Addr} {osl : Array (Option Value)} {kV doc pm ct : Value} (a : PySem.W.nsIn K mainGlobals "ranked" = some (some (.ref f))) (l : K.lookup f = some ⟨oc, od, .func (PySem.W.fnOf "ranked" "ranked" (defArgs s_ranked) (defBody s_ranked) (defScope s_ranked) .none kV doc pm an (.ref c) ct), osl⟩)
    (cd : PySem.W.codeIn K (.ref c) "ranked" = true) (k : PySem.W.keepIn K (.ref f) = true) (h : PySem.W.codeHdIn K c P = true) (n : K.lookup P = none) : RankAt K P := ⟨f, _, c, a, fun_mk l cd k, ⟨⟨oc, od, kV, doc, pm, an, ct, osl, rfl, l, cd⟩⟩, h, n⟩
structure Defs (K : PySem.W.Frag) : Prop where
  a_is_in : DefAt K "is_in" s_is_in
  a_gcd : DefAt K "gcd" s_gcd
  a_reduced : DefAt K "reduced" s_reduced
  a_plus : DefAt K "plus" s_plus
  a_times : DefAt K "times" s_times
  a_is_ratio : DefAt K "is_ratio" s_is_ratio
  a_sign : DefAt K "sign" s_sign
  a_is_point : DefAt K "is_point" s_is_point
  a_need_point : DefAt K "need_point" s_need_point
  a_need_points : DefAt K "need_points" s_need_points
  a_order_of : DefAt K "order_of" s_order_of
  a_common_weight : DefAt K "common_weight" s_common_weight
  a_scaled : DefAt K "scaled" s_scaled
  a_doubled : DefAt K "doubled" s_doubled
  a_turn_of : DefAt K "turn_of" s_turn_of
  a_is_between : DefAt K "is_between" s_is_between
  a_line_through : DefAt K "line_through" s_line_through
  a_hull_indexes : DefAt K "hull_indexes" s_hull_indexes
  a_hull : DefAt K "hull" s_hull
  a_weights_in : DefAt K "weights_in" s_weights_in
  a_along : DefAt K "along" s_along
  a_barrier : DefAt K "barrier" s_barrier
  a_raised : DefAt K "raised" s_raised
  a_locate_in_hull : DefAt K "locate_in_hull" s_locate_in_hull
  a_locate_in : DefAt K "locate_in" s_locate_in
  a_is_barrier : DefAt K "is_barrier" s_is_barrier
  a_is_mixture : DefAt K "is_mixture" s_is_mixture
  a_shows_in_hull : DefAt K "shows_in_hull" s_shows_in_hull
  a_l_taken : DefAt K "_law_taken" s_l_taken
  a_l_pick : DefAt K "_law_pick" s_l_pick
  a_l_signed : DefAt K "_law_signed" s_l_signed
  a_l_grid : DefAt K "_law_grid" s_l_grid
  a_l_points : DefAt K "_law_points" s_l_points
  a_l_alike : DefAt K "_law_alike" s_l_alike
  a_l_sign : DefAt K "_law_sign" s_l_sign
  a_l_doubled : DefAt K "_law_doubled" s_l_doubled
  a_l_turn : DefAt K "_law_turn" s_l_turn
  a_l_order : DefAt K "_law_order" s_l_order
  a_l_between : DefAt K "_law_between" s_l_between
  a_l_hull : DefAt K "_law_hull" s_l_hull
  a_l_gcd : DefAt K "_law_gcd" s_l_gcd
  a_l_lowest : DefAt K "_law_lowest" s_l_lowest
  a_l_point : DefAt K "_law_point" s_l_point
  a_l_ratio : DefAt K "_law_ratio" s_l_ratio
  a_l_plus : DefAt K "_law_plus" s_l_plus
  a_l_times : DefAt K "_law_times" s_l_times
  a_l_is_mixture : DefAt K "_law_is_mixture" s_l_is_mixture
  a_l_is_barrier : DefAt K "_law_is_barrier" s_l_is_barrier
  a_l_moved : DefAt K "_law_moved" s_l_moved
  a_law : DefAt K "law" s_law
structure Frees (K : PySem.W.Frag) : Prop where
  n_abs : PySem.W.nsIn K mainGlobals "abs" = some none
  n_bool : PySem.W.nsIn K mainGlobals "bool" = some none
  n_int : PySem.W.nsIn K mainGlobals "int" = some none
  n_isinstance : PySem.W.nsIn K mainGlobals "isinstance" = some none
  n_len : PySem.W.nsIn K mainGlobals "len" = some none
  n_list : PySem.W.nsIn K mainGlobals "list" = some none
  n_max : PySem.W.nsIn K mainGlobals "max" = some none
  n_min : PySem.W.nsIn K mainGlobals "min" = some none
  n_range : PySem.W.nsIn K mainGlobals "range" = some none
  n_set : PySem.W.nsIn K mainGlobals "set" = some none
  n_sorted : PySem.W.nsIn K mainGlobals "sorted" = some none
  n_str : PySem.W.nsIn K mainGlobals "str" = some none
  n_tuple : PySem.W.nsIn K mainGlobals "tuple" = some none
  n_zip : PySem.W.nsIn K mainGlobals "zip" = some none
  n_LARGEST : ∃ t, PySem.W.nsIn K mainGlobals "LARGEST" = some (some (.int 1000000000000 t))
  n_MOST_POINTS : ∃ t, PySem.W.nsIn K mainGlobals "MOST_POINTS" = some (some (.int 40 t))
theorem tx_of {K : PySem.W.Frag} {h : Heap} {mg : Str → Option Value} {P : Addr} (X : K.In h) (G : h.Ns mainGlobals mg) (A : Defs K) (B : Frees K) (R : RankAt K P) : ∃ T : Tx K mg, T.P_ranked = P ∧ PySem.W.codeHdIn K T.c_ranked P = true ∧ K.lookup P = none := by
  obtain ⟨f_is_in, d_is_in, a_is_in, F_is_in⟩ := A.a_is_in
  obtain ⟨f_gcd, d_gcd, a_gcd, F_gcd⟩ := A.a_gcd
  obtain ⟨f_reduced, d_reduced, a_reduced, F_reduced⟩ := A.a_reduced
  obtain ⟨f_plus, d_plus, a_plus, F_plus⟩ := A.a_plus
  obtain ⟨f_times, d_times, a_times, F_times⟩ := A.a_times
  obtain ⟨f_is_ratio, d_is_ratio, a_is_ratio, F_is_ratio⟩ := A.a_is_ratio
  obtain ⟨f_sign, d_sign, a_sign, F_sign⟩ := A.a_sign
  obtain ⟨f_is_point, d_is_point, a_is_point, F_is_point⟩ := A.a_is_point
  obtain ⟨f_need_point, d_need_point, a_need_point, F_need_point⟩ := A.a_need_point
  obtain ⟨f_need_points, d_need_points, a_need_points, F_need_points⟩ := A.a_need_points
  obtain ⟨f_order_of, d_order_of, a_order_of, F_order_of⟩ := A.a_order_of
  obtain ⟨f_common_weight, d_common_weight, a_common_weight, F_common_weight⟩ := A.a_common_weight
  obtain ⟨f_scaled, d_scaled, a_scaled, F_scaled⟩ := A.a_scaled
  obtain ⟨f_doubled, d_doubled, a_doubled, F_doubled⟩ := A.a_doubled
  obtain ⟨f_turn_of, d_turn_of, a_turn_of, F_turn_of⟩ := A.a_turn_of
  obtain ⟨f_is_between, d_is_between, a_is_between, F_is_between⟩ := A.a_is_between
  obtain ⟨f_line_through, d_line_through, a_line_through, F_line_through⟩ := A.a_line_through
  obtain ⟨f_hull_indexes, d_hull_indexes, a_hull_indexes, F_hull_indexes⟩ := A.a_hull_indexes
  obtain ⟨f_hull, d_hull, a_hull, F_hull⟩ := A.a_hull
  obtain ⟨f_weights_in, d_weights_in, a_weights_in, F_weights_in⟩ := A.a_weights_in
  obtain ⟨f_along, d_along, a_along, F_along⟩ := A.a_along
  obtain ⟨f_barrier, d_barrier, a_barrier, F_barrier⟩ := A.a_barrier
  obtain ⟨f_raised, d_raised, a_raised, F_raised⟩ := A.a_raised
  obtain ⟨f_locate_in_hull, d_locate_in_hull, a_locate_in_hull, F_locate_in_hull⟩ := A.a_locate_in_hull
  obtain ⟨f_locate_in, d_locate_in, a_locate_in, F_locate_in⟩ := A.a_locate_in
  obtain ⟨f_is_barrier, d_is_barrier, a_is_barrier, F_is_barrier⟩ := A.a_is_barrier
  obtain ⟨f_is_mixture, d_is_mixture, a_is_mixture, F_is_mixture⟩ := A.a_is_mixture
  obtain ⟨f_shows_in_hull, d_shows_in_hull, a_shows_in_hull, F_shows_in_hull⟩ := A.a_shows_in_hull
  obtain ⟨f_l_taken, d_l_taken, a_l_taken, F_l_taken⟩ := A.a_l_taken
  obtain ⟨f_l_pick, d_l_pick, a_l_pick, F_l_pick⟩ := A.a_l_pick
  obtain ⟨f_l_signed, d_l_signed, a_l_signed, F_l_signed⟩ := A.a_l_signed
  obtain ⟨f_l_grid, d_l_grid, a_l_grid, F_l_grid⟩ := A.a_l_grid
  obtain ⟨f_l_points, d_l_points, a_l_points, F_l_points⟩ := A.a_l_points
  obtain ⟨f_l_alike, d_l_alike, a_l_alike, F_l_alike⟩ := A.a_l_alike
  obtain ⟨f_l_sign, d_l_sign, a_l_sign, F_l_sign⟩ := A.a_l_sign
  obtain ⟨f_l_doubled, d_l_doubled, a_l_doubled, F_l_doubled⟩ := A.a_l_doubled
  obtain ⟨f_l_turn, d_l_turn, a_l_turn, F_l_turn⟩ := A.a_l_turn
  obtain ⟨f_l_order, d_l_order, a_l_order, F_l_order⟩ := A.a_l_order
  obtain ⟨f_l_between, d_l_between, a_l_between, F_l_between⟩ := A.a_l_between
  obtain ⟨f_l_hull, d_l_hull, a_l_hull, F_l_hull⟩ := A.a_l_hull
  obtain ⟨f_l_gcd, d_l_gcd, a_l_gcd, F_l_gcd⟩ := A.a_l_gcd
  obtain ⟨f_l_lowest, d_l_lowest, a_l_lowest, F_l_lowest⟩ := A.a_l_lowest
  obtain ⟨f_l_point, d_l_point, a_l_point, F_l_point⟩ := A.a_l_point
  obtain ⟨f_l_ratio, d_l_ratio, a_l_ratio, F_l_ratio⟩ := A.a_l_ratio
  obtain ⟨f_l_plus, d_l_plus, a_l_plus, F_l_plus⟩ := A.a_l_plus
  obtain ⟨f_l_times, d_l_times, a_l_times, F_l_times⟩ := A.a_l_times
  obtain ⟨f_l_is_mixture, d_l_is_mixture, a_l_is_mixture, F_l_is_mixture⟩ := A.a_l_is_mixture
  obtain ⟨f_l_is_barrier, d_l_is_barrier, a_l_is_barrier, F_l_is_barrier⟩ := A.a_l_is_barrier
  obtain ⟨f_l_moved, d_l_moved, a_l_moved, F_l_moved⟩ := A.a_l_moved
  obtain ⟨f_law, d_law, a_law, F_law⟩ := A.a_law
  obtain ⟨f_ranked, d_ranked, c, a_ranked, F_ranked, C_ranked, hh, nP⟩ := R
  obtain ⟨tL, hL⟩ := B.n_LARGEST
  obtain ⟨tM, hM⟩ := B.n_MOST_POINTS
  exact ⟨{
    f_is_in := f_is_in, d_is_in := d_is_in, F_is_in := F_is_in, g_is_in := PySem.W.mg_of X G a_is_in
    b_is_in := F_is_in.binds (ps := ["value", "least", "most"]) fun _ _ _ _ _ _ us hl => match us, hl with | [_, _, _], _ => rfl
    f_gcd := f_gcd, d_gcd := d_gcd, F_gcd := F_gcd, g_gcd := PySem.W.mg_of X G a_gcd
    b_gcd := F_gcd.binds (ps := ["one", "other"]) fun _ _ _ _ _ _ us hl => match us, hl with | [_, _], _ => rfl
    f_reduced := f_reduced, d_reduced := d_reduced, F_reduced := F_reduced, g_reduced := PySem.W.mg_of X G a_reduced
    b_reduced := F_reduced.binds (ps := ["numerator", "denominator"]) fun _ _ _ _ _ _ us hl => match us, hl with | [_, _], _ => rfl
    f_plus := f_plus, d_plus := d_plus, F_plus := F_plus, g_plus := PySem.W.mg_of X G a_plus
    b_plus := F_plus.binds (ps := ["one", "other"]) fun _ _ _ _ _ _ us hl => match us, hl with | [_, _], _ => rfl
    f_times := f_times, d_times := d_times, F_times := F_times, g_times := PySem.W.mg_of X G a_times
    b_times := F_times.binds (ps := ["one", "other"]) fun _ _ _ _ _ _ us hl => match us, hl with | [_, _], _ => rfl
    f_is_ratio := f_is_ratio, d_is_ratio := d_is_ratio, F_is_ratio := F_is_ratio, g_is_ratio := PySem.W.mg_of X G a_is_ratio
    b_is_ratio := F_is_ratio.binds (ps := ["value"]) fun _ _ _ _ _ _ us hl => match us, hl with | [_], _ => rfl
    f_sign := f_sign, d_sign := d_sign, F_sign := F_sign, g_sign := PySem.W.mg_of X G a_sign
    b_sign := F_sign.binds (ps := ["number"]) fun _ _ _ _ _ _ us hl => match us, hl with | [_], _ => rfl
    f_is_point := f_is_point, d_is_point := d_is_point, F_is_point := F_is_point, g_is_point := PySem.W.mg_of X G a_is_point
    b_is_point := F_is_point.binds (ps := ["value"]) fun _ _ _ _ _ _ us hl => match us, hl with | [_], _ => rfl
    f_need_point := f_need_point, d_need_point := d_need_point, F_need_point := F_need_point, g_need_point := PySem.W.mg_of X G a_need_point
    b_need_point := F_need_point.binds (ps := ["value"]) fun _ _ _ _ _ _ us hl => match us, hl with | [_], _ => rfl
    f_need_points := f_need_points, d_need_points := d_need_points, F_need_points := F_need_points, g_need_points := PySem.W.mg_of X G a_need_points
    b_need_points := F_need_points.binds (ps := ["value"]) fun _ _ _ _ _ _ us hl => match us, hl with | [_], _ => rfl
    f_order_of := f_order_of, d_order_of := d_order_of, F_order_of := F_order_of, g_order_of := PySem.W.mg_of X G a_order_of
    b_order_of := F_order_of.binds (ps := ["a", "b"]) fun _ _ _ _ _ _ us hl => match us, hl with | [_, _], _ => rfl
    f_common_weight := f_common_weight, d_common_weight := d_common_weight, F_common_weight := F_common_weight, g_common_weight := PySem.W.mg_of X G a_common_weight
    b_common_weight := F_common_weight.binds (ps := ["points"]) fun _ _ _ _ _ _ us hl => match us, hl with | [_], _ => rfl
    f_scaled := f_scaled, d_scaled := d_scaled, F_scaled := F_scaled, g_scaled := PySem.W.mg_of X G a_scaled
    b_scaled := F_scaled.binds (ps := ["points"]) fun _ _ _ _ _ _ us hl => match us, hl with | [_], _ => rfl
    f_ranked := f_ranked, d_ranked := d_ranked, F_ranked := F_ranked, g_ranked := PySem.W.mg_of X G a_ranked
    b_ranked := F_ranked.binds (ps := ["points"]) fun _ _ _ _ _ _ us hl => match us, hl with | [_], _ => rfl
    f_doubled := f_doubled, d_doubled := d_doubled, F_doubled := F_doubled, g_doubled := PySem.W.mg_of X G a_doubled
    b_doubled := F_doubled.binds (ps := ["a", "b", "c"]) fun _ _ _ _ _ _ us hl => match us, hl with | [_, _, _], _ => rfl
    f_turn_of := f_turn_of, d_turn_of := d_turn_of, F_turn_of := F_turn_of, g_turn_of := PySem.W.mg_of X G a_turn_of
    b_turn_of := F_turn_of.binds (ps := ["a", "b", "c"]) fun _ _ _ _ _ _ us hl => match us, hl with | [_, _, _], _ => rfl
    f_is_between := f_is_between, d_is_between := d_is_between, F_is_between := F_is_between, g_is_between := PySem.W.mg_of X G a_is_between
    b_is_between := F_is_between.binds (ps := ["a", "b", "p"]) fun _ _ _ _ _ _ us hl => match us, hl with | [_, _, _], _ => rfl
    f_line_through := f_line_through, d_line_through := d_line_through, F_line_through := F_line_through, g_line_through := PySem.W.mg_of X G a_line_through
    b_line_through := F_line_through.binds (ps := ["a", "b"]) fun _ _ _ _ _ _ us hl => match us, hl with | [_, _], _ => rfl
    f_hull_indexes := f_hull_indexes, d_hull_indexes := d_hull_indexes, F_hull_indexes := F_hull_indexes, g_hull_indexes := PySem.W.mg_of X G a_hull_indexes
    b_hull_indexes := F_hull_indexes.binds (ps := ["points"]) fun _ _ _ _ _ _ us hl => match us, hl with | [_], _ => rfl
    f_hull := f_hull, d_hull := d_hull, F_hull := F_hull, g_hull := PySem.W.mg_of X G a_hull
    b_hull := F_hull.binds (ps := ["points"]) fun _ _ _ _ _ _ us hl => match us, hl with | [_], _ => rfl
    f_weights_in := f_weights_in, d_weights_in := d_weights_in, F_weights_in := F_weights_in, g_weights_in := PySem.W.mg_of X G a_weights_in
    b_weights_in := F_weights_in.binds (ps := ["points", "chosen", "p"]) fun _ _ _ _ _ _ us hl => match us, hl with | [_, _, _], _ => rfl
    f_along := f_along, d_along := d_along, F_along := F_along, g_along := PySem.W.mg_of X G a_along
    b_along := F_along.binds (ps := ["a", "b", "p"]) fun _ _ _ _ _ _ us hl => match us, hl with | [_, _, _], _ => rfl
    f_barrier := f_barrier, d_barrier := d_barrier, F_barrier := F_barrier, g_barrier := PySem.W.mg_of X G a_barrier
    b_barrier := F_barrier.binds (ps := ["points", "corners", "p"]) fun _ _ _ _ _ _ us hl => match us, hl with | [_, _, _], _ => rfl
    f_raised := f_raised, d_raised := d_raised, F_raised := F_raised, g_raised := PySem.W.mg_of X G a_raised
    b_raised := F_raised.binds (ps := ["u", "v", "ends"]) fun _ _ _ _ _ _ us hl => match us, hl with | [_, _, _], _ => rfl
    f_locate_in_hull := f_locate_in_hull, d_locate_in_hull := d_locate_in_hull, F_locate_in_hull := F_locate_in_hull, g_locate_in_hull := PySem.W.mg_of X G a_locate_in_hull
    b_locate_in_hull := F_locate_in_hull.binds (ps := ["points", "p"]) fun _ _ _ _ _ _ us hl => match us, hl with | [_, _], _ => rfl
    f_locate_in := f_locate_in, d_locate_in := d_locate_in, F_locate_in := F_locate_in, g_locate_in := PySem.W.mg_of X G a_locate_in
    b_locate_in := F_locate_in.binds (ps := ["points", "p"]) fun _ _ _ _ _ _ us hl => match us, hl with | [_, _], _ => rfl
    f_is_barrier := f_is_barrier, d_is_barrier := d_is_barrier, F_is_barrier := F_is_barrier, g_is_barrier := PySem.W.mg_of X G a_is_barrier
    b_is_barrier := F_is_barrier.binds (ps := ["points", "p", "value"]) fun _ _ _ _ _ _ us hl => match us, hl with | [_, _, _], _ => rfl
    f_is_mixture := f_is_mixture, d_is_mixture := d_is_mixture, F_is_mixture := F_is_mixture, g_is_mixture := PySem.W.mg_of X G a_is_mixture
    b_is_mixture := F_is_mixture.binds (ps := ["points", "p", "value"]) fun _ _ _ _ _ _ us hl => match us, hl with | [_, _, _], _ => rfl
    f_shows_in_hull := f_shows_in_hull, d_shows_in_hull := d_shows_in_hull, F_shows_in_hull := F_shows_in_hull, g_shows_in_hull := PySem.W.mg_of X G a_shows_in_hull
    b_shows_in_hull := F_shows_in_hull.binds (ps := ["points", "p", "value"]) fun _ _ _ _ _ _ us hl => match us, hl with | [_, _, _], _ => rfl
    f_l_taken := f_l_taken, d_l_taken := d_l_taken, F_l_taken := F_l_taken, g_l_taken := PySem.W.mg_of X G a_l_taken
    b_l_taken := F_l_taken.binds (ps := ["_law_row", "_law_many"]) fun _ _ _ _ _ _ us hl => match us, hl with | [_, _], _ => rfl
    f_l_pick := f_l_pick, d_l_pick := d_l_pick, F_l_pick := F_l_pick, g_l_pick := PySem.W.mg_of X G a_l_pick
    b_l_pick := F_l_pick.binds (ps := ["_law_row", "_law_things"]) fun _ _ _ _ _ _ us hl => match us, hl with | [_, _], _ => rfl
    f_l_signed := f_l_signed, d_l_signed := d_l_signed, F_l_signed := F_l_signed, g_l_signed := PySem.W.mg_of X G a_l_signed
    b_l_signed := F_l_signed.binds (ps := ["_law_row", "_law_most"]) fun _ _ _ _ _ _ us hl => match us, hl with | [_, _], _ => rfl
    f_l_grid := f_l_grid, d_l_grid := d_l_grid, F_l_grid := F_l_grid, g_l_grid := PySem.W.mg_of X G a_l_grid
    b_l_grid := F_l_grid.binds (ps := ["_law_row", "_law_size"]) fun _ _ _ _ _ _ us hl => match us, hl with | [_, _], _ => rfl
    f_l_points := f_l_points, d_l_points := d_l_points, F_l_points := F_l_points, g_l_points := PySem.W.mg_of X G a_l_points
    b_l_points := F_l_points.binds (ps := ["_law_row", "_law_least", "_law_most", "_law_size"]) fun _ _ _ _ _ _ us hl => match us, hl with | [_, _, _, _], _ => rfl
    f_l_alike := f_l_alike, d_l_alike := d_l_alike, F_l_alike := F_l_alike, g_l_alike := PySem.W.mg_of X G a_l_alike
    b_l_alike := F_l_alike.binds (ps := ["_law_found", "_law_due"]) fun _ _ _ _ _ _ us hl => match us, hl with | [_, _], _ => rfl
    f_l_sign := f_l_sign, d_l_sign := d_l_sign, F_l_sign := F_l_sign, g_l_sign := PySem.W.mg_of X G a_l_sign
    b_l_sign := F_l_sign.binds (ps := ["_law_number"]) fun _ _ _ _ _ _ us hl => match us, hl with | [_], _ => rfl
    f_l_doubled := f_l_doubled, d_l_doubled := d_l_doubled, F_l_doubled := F_l_doubled, g_l_doubled := PySem.W.mg_of X G a_l_doubled
    b_l_doubled := F_l_doubled.binds (ps := ["_law_a", "_law_b", "_law_c"]) fun _ _ _ _ _ _ us hl => match us, hl with | [_, _, _], _ => rfl
    f_l_turn := f_l_turn, d_l_turn := d_l_turn, F_l_turn := F_l_turn, g_l_turn := PySem.W.mg_of X G a_l_turn
    b_l_turn := F_l_turn.binds (ps := ["_law_a", "_law_b", "_law_c"]) fun _ _ _ _ _ _ us hl => match us, hl with | [_, _, _], _ => rfl
    f_l_order := f_l_order, d_l_order := d_l_order, F_l_order := F_l_order, g_l_order := PySem.W.mg_of X G a_l_order
    b_l_order := F_l_order.binds (ps := ["_law_a", "_law_b"]) fun _ _ _ _ _ _ us hl => match us, hl with | [_, _], _ => rfl
    f_l_between := f_l_between, d_l_between := d_l_between, F_l_between := F_l_between, g_l_between := PySem.W.mg_of X G a_l_between
    b_l_between := F_l_between.binds (ps := ["_law_a", "_law_b", "_law_p"]) fun _ _ _ _ _ _ us hl => match us, hl with | [_, _, _], _ => rfl
    f_l_hull := f_l_hull, d_l_hull := d_l_hull, F_l_hull := F_l_hull, g_l_hull := PySem.W.mg_of X G a_l_hull
    b_l_hull := F_l_hull.binds (ps := ["_law_points_here"]) fun _ _ _ _ _ _ us hl => match us, hl with | [_], _ => rfl
    f_l_gcd := f_l_gcd, d_l_gcd := d_l_gcd, F_l_gcd := F_l_gcd, g_l_gcd := PySem.W.mg_of X G a_l_gcd
    b_l_gcd := F_l_gcd.binds (ps := ["_law_one", "_law_other"]) fun _ _ _ _ _ _ us hl => match us, hl with | [_, _], _ => rfl
    f_l_lowest := f_l_lowest, d_l_lowest := d_l_lowest, F_l_lowest := F_l_lowest, g_l_lowest := PySem.W.mg_of X G a_l_lowest
    b_l_lowest := F_l_lowest.binds (ps := ["_law_x", "_law_y", "_law_w"]) fun _ _ _ _ _ _ us hl => match us, hl with | [_, _, _], _ => rfl
    f_l_point := f_l_point, d_l_point := d_l_point, F_l_point := F_l_point, g_l_point := PySem.W.mg_of X G a_l_point
    b_l_point := F_l_point.binds (ps := ["_law_row", "_law_size"]) fun _ _ _ _ _ _ us hl => match us, hl with | [_, _], _ => rfl
    f_l_ratio := f_l_ratio, d_l_ratio := d_l_ratio, F_l_ratio := F_l_ratio, g_l_ratio := PySem.W.mg_of X G a_l_ratio
    b_l_ratio := F_l_ratio.binds (ps := ["_law_numerator", "_law_denominator"]) fun _ _ _ _ _ _ us hl => match us, hl with | [_, _], _ => rfl
    f_l_plus := f_l_plus, d_l_plus := d_l_plus, F_l_plus := F_l_plus, g_l_plus := PySem.W.mg_of X G a_l_plus
    b_l_plus := F_l_plus.binds (ps := ["_law_one", "_law_other"]) fun _ _ _ _ _ _ us hl => match us, hl with | [_, _], _ => rfl
    f_l_times := f_l_times, d_l_times := d_l_times, F_l_times := F_l_times, g_l_times := PySem.W.mg_of X G a_l_times
    b_l_times := F_l_times.binds (ps := ["_law_one", "_law_other"]) fun _ _ _ _ _ _ us hl => match us, hl with | [_, _], _ => rfl
    f_l_is_mixture := f_l_is_mixture, d_l_is_mixture := d_l_is_mixture, F_l_is_mixture := F_l_is_mixture, g_l_is_mixture := PySem.W.mg_of X G a_l_is_mixture
    b_l_is_mixture := F_l_is_mixture.binds (ps := ["_law_points_here", "_law_p", "_law_value"]) fun _ _ _ _ _ _ us hl => match us, hl with | [_, _, _], _ => rfl
    f_l_is_barrier := f_l_is_barrier, d_l_is_barrier := d_l_is_barrier, F_l_is_barrier := F_l_is_barrier, g_l_is_barrier := PySem.W.mg_of X G a_l_is_barrier
    b_l_is_barrier := F_l_is_barrier.binds (ps := ["_law_points_here", "_law_p", "_law_value"]) fun _ _ _ _ _ _ us hl => match us, hl with | [_, _, _], _ => rfl
    f_l_moved := f_l_moved, d_l_moved := d_l_moved, F_l_moved := F_l_moved, g_l_moved := PySem.W.mg_of X G a_l_moved
    b_l_moved := F_l_moved.binds (ps := ["_law_row", "_law_points_here"]) fun _ _ _ _ _ _ us hl => match us, hl with | [_, _], _ => rfl
    f_law := f_law, d_law := d_law, F_law := F_law, g_law := PySem.W.mg_of X G a_law
    b_law := F_law.binds (ps := ["_law_script"]) fun _ _ _ _ _ _ us hl => match us, hl with | [_], _ => rfl
    z_abs := PySem.W.mg_none_of X G B.n_abs
    z_bool := PySem.W.mg_none_of X G B.n_bool
    z_int := PySem.W.mg_none_of X G B.n_int
    z_isinstance := PySem.W.mg_none_of X G B.n_isinstance
    z_len := PySem.W.mg_none_of X G B.n_len
    z_list := PySem.W.mg_none_of X G B.n_list
    z_max := PySem.W.mg_none_of X G B.n_max
    z_min := PySem.W.mg_none_of X G B.n_min
    z_range := PySem.W.mg_none_of X G B.n_range
    z_set := PySem.W.mg_none_of X G B.n_set
    z_sorted := PySem.W.mg_none_of X G B.n_sorted
    z_str := PySem.W.mg_none_of X G B.n_str
    z_tuple := PySem.W.mg_none_of X G B.n_tuple
    z_zip := PySem.W.mg_none_of X G B.n_zip
    c_ranked := c, P_ranked := P, C_ranked := C_ranked, t_LARGEST := tL, m_LARGEST := PySem.W.mg_of X G hL, t_MOST_POINTS := tM, m_MOST_POINTS := PySem.W.mg_of X G hM }, rfl, hh, nP⟩
theorem scr_of {K : PySem.W.Frag} {H : Hp} {a : Addr} {ns : List Int} (h : SqL K H a (ns.map V.int)) : ∃ s : Scr K a, ∀ o, s.so = some o → H a = some o := by
  rcases h with (h | ⟨ob, h⟩) | h
  · exact ⟨⟨ns, some (.lst (ns.map V.int)), fun H' k => .inl (.inl (k _ rfl)), fun o e ps z => by cases e; cases z⟩, fun o e => by cases e; exact h⟩
  · exact ⟨⟨ns, some (.frz ob (.lst (ns.map V.int))), fun H' k => .inl (.inr ⟨ob, k _ rfl⟩), fun o e ps z => by cases e; cases z⟩, fun o e => by cases e; exact h⟩
  · exact ⟨⟨ns, none, fun H' k => .inr h, (fun o e => nomatch e)⟩, (fun o e => nomatch e)⟩
theorem law_at {l : PySem.W.OpenLaw} {w : World} {K : PySem.W.Frag} {h : Heap} {mg : Str → Option Value} {fa P : Addr} (X : K.In h) (G : h.Ns mainGlobals mg) (hfa : mg "law" = some (.ref fa)) (tP : h.get? P = some { cls := .none, data := .fields #[] }) (A : Defs K) (B : Frees K) (R : RankAt K P) :
    LamX.LawAtS l w K CX0 10 63 "_law_script" mg fa h := by
  obtain ⟨T, eP, hh, nP⟩ := tx_of X G A B R
  have e := hfa.symm.trans T.g_law
  cases e
  subst eP
  refine ⟨T.d_law, [(T.c_ranked, T.P_ranked)], spOf (G_law (tbx T)), fun p hp => ?_, fun p hp => ?_, fun p hp => ?_, fun s u => ?_, fun H a ns hl _ hT hS => ?_, fun base hK hns TB => ok_law T (TB (T.c_ranked, T.P_ranked) (List.mem_singleton.mpr rfl))⟩
  · rcases List.mem_singleton.mp hp with rfl
    exact tP
  · rcases List.mem_singleton.mp hp with rfl
    exact nP
  · rcases List.mem_singleton.mp hp with rfl
    exact PySem.W.codeHd_of_K X hh
  · obtain ⟨oc, od, kV, doc, pm, an, cdv, ct, osl, e, _⟩ := T.F_law.ex
    rw [e]
    exact .of_eq rfl
  · obtain ⟨sc, hsc⟩ := scr_of hS
    refine ⟨Zt (tbx T).t, IsV (.bl true), fun q hq => ?_, ⟨a, sc, rfl, rfl, hsc, rfl⟩, fun v H2 _ r => r⟩
    rcases List.mem_singleton.mp hq with rfl
    exact LamX.TabS.nil (hT (T.c_ranked, T.P_ranked) (List.mem_singleton.mpr rfl))
end Hk
/-! ## HD -/
section
open PySem PySem.W PyProof.Rows
set_option maxHeartbeats 0 in
open_top hd for PySem.Challenge.rw_meshcore_k04_whole_hulls
end
/-! ## END -/
open PySem PySem.W PyProof.Rows

set_option maxRecDepth 100000 in
set_option maxHeartbeats 0 in
theorem PySem.Challenge.cw_meshcore_k04_whole_hulls_holds : PySem.Challenge.rw_meshcore_k04_whole_hulls.Holds := by
  refine hd ?_
  k_fill
  refine LamX.walk_ofTs (l := PySem.Challenge.rw_meshcore_k04_whole_hulls) (n := 63) (k := 10) (x := "_law_script") (CX := fun _ => L2.CX0) rfl (by decide) rfl ⟨rfl, by decide, by decide⟩ (fun w h Y => km_in_of Y) ?F (fun _ _ _ _ _ z => z)
  case F =>
    intro w mg fa h Y KX G hmg
    have hT := km_tabs_of Y
    refine Hk.law_at KX G hmg (hT _ List.mem_cons_self) ?A ?B ?R
    case A =>
      constructor
      all_goals (refine' Hk.defAt ?a ?l ?c ?k; (case a => k_is); (case l => k_is); (case c => k_is); (case k => k_is))
    case B =>
      constructor
      case n_LARGEST => exact ⟨_, by k_is⟩
      case n_MOST_POINTS => exact ⟨_, by k_is⟩
      all_goals k_is
    case R =>
      refine' Hk.rankAt ?a ?l ?c ?k ?h ?n
      (case a => k_is); (case l => k_is); (case c => k_is); (case k => k_is)
      (case h => kernel_rfl)
      (case n => kernel_rfl)
#print axioms PySem.Challenge.cw_meshcore_k04_whole_hulls_holds
