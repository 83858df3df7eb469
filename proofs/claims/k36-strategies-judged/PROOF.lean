import PyProof.Rows.All
import Wide.All
import OpenK.AllK
import Wide.FinOn
import HandS.ForMost
import HandS.TupAny
import HandS.Deep
import HandS.Conv
import HandS.IsInst
import HandS.Flow
import HandS.Defaults
import HandS.Strs
import HandS.Wide
import KE.KDictKeyed
import HandS.HeadEnd
import HandS.SortRule
import HandS.TupLe
import KE.KSortTupAny
import HandS.SortInts
import HandS.TupSets
import HandS.Iter
import HandS.Comp
import HandS.Style
import PyProof.ReprRoads
import PyProof.StrLawsRepr
import HandS.FStrTup
import HandS.SetFor
import KE.DatumOrd
import PyProof.TupleOfSeq
import HandS.ExcValue
import HandS.DictComp
import KE.KStateDown
import Lean
import HandS.Head0
import HandS.Head1
import HandS.Head2
import HandS.HeadHook1
import HandS.HeadHook2
import PySem.Challenge.RW_plainhearing_k36_strategies_judged
set_option Elab.async false
set_option linter.all false
set_option maxRecDepth 100000
set_option maxHeartbeats 0
/-! Z0: tuples whose object is known, tuple.index, the item of a list as it is read in an augmented store. -/
namespace Z
open PySem PySem.Spec PyProof.Rows L2
section
variable {X : Cx}
/-- a tuple laid: its object is known -/
theorem Inv.tupF {pins : List (Addr × Obj)} {σ : L2.St} {H : Hp} {s : Shared} {a : Addr} {xs : List V} {its : List Value} {h' : Heap} {t' : Nat} (I : Inv X pins σ H s) (k : ∀ b u, s.heap.get? b = some u → h'.get? b = some u) (hp : s.heap.objs.size ≤ a)
    (e : h'.get? a = some { cls := .type "tuple", data := .seq its.toArray }) (r : Vals xs its) (hz : xs.length ≤ sizeLine) : Inv X pins σ (upd H a (.frz { cls := .type "tuple", data := .seq its.toArray } (.tup xs))) { s with heap := h', toks := t' } :=
  I.laid k hp ⟨e, hz, its, r, ⟨_, e, rfl, _, rfl⟩⟩
def tTupF (t : TA) : TE := fun σ H Q => t σ H fun xs H1 => xs.length ≤ sizeLine ∧ ∀ p o, H1 p = none → o.dict = none → Q (.ref p) (upd H1 p (.frz o (.tup xs)))
theorem pe_tupF {es : List Expr} {t : TA} {pos : Pos} {x1 : Nat} (h : PA X es t) : PE X (.Tuple es x1 pos) (tTupF t) := by
  refine ⟨fun pins s σ H Q I hq => ?_⟩
  refine wpAny_Tuple_spliced (thn (h.run pos pins s σ H _ I hq) fun us s1 ⟨xs, H1, I1, r, z, q⟩ => ⟨by rw [← r.length]; exact z, ?_⟩)
  have hf : H1 s1.heap.objs.size = none := I1.hok.fresh (Nat.le_refl _)
  exact ⟨.ref s1.heap.objs.size, _, Inv.tupF (t' := s1.toks) I1 (fun b u e => Heap.get?_push_of_some _ e) (Nat.le_refl _) (Heap.get?_push_size _ rfl) r z, rfl, q _ _ hf rfl⟩
theorem call_tuple_ofF : CallR X (.type "tuple") (fun xs H Q => ∃ p ys, xs = [.ref p] ∧ ((SqL X.K H p ys ∧ ∀ l o, H l = none → o.dict = none → Q (.ref l) (upd H l (.frz o (.tup ys)))) ∨ (SqT X.K H p ys ∧ Q (.ref p) H))) := by
  intro pins s σ H xs us Q I r h
  obtain ⟨p, ys, rfl, h⟩ := h
  obtain ⟨u, rfl, rx⟩ := vals1 r
  cases rx
  rcases h with ⟨hq, q⟩ | ⟨hq, q⟩
  · obtain ⟨its, r', pl, hz⟩ := I.list hq
    have hlen := r'.length
    refine call_tuple_list pl.isList (fun h' kp => ?_) (by simp only [List.size_toArray] <;> omega)
    have I1 : Inv X pins σ H { s with heap := h' } := I.kept (t' := s.toks) kp
    have I2 := Inv.tupF (h' := h'.push { cls := .type "tuple", data := .seq its.toArray }) (t' := s.toks) I1 (fun b o e => Heap.get?_push_of_some _ e) (Nat.le_refl _) (Heap.get?_push_size _ rfl) r' hz
    exact ⟨.ref h'.objs.size, _, I2, rfl, q _ _ (I1.hok.fresh (Nat.le_refl _)) rfl⟩
  · obtain ⟨its, r', pl, hz⟩ := I.tuple hq
    exact call_tuple_same pl ⟨.ref p, H, I, rfl, q⟩
def rCatF (K : PySem.W.Frag) : R2 := fun x y H Q => ∃ a b xs ys, x = .ref a ∧ y = .ref b ∧ SqT K H a xs ∧ SqT K H b ys ∧ xs.length + ys.length ≤ sizeLine ∧
  (xs = [] → Q (.ref b) H) ∧ (xs ≠ [] → ys = [] → Q (.ref a) H) ∧ (xs ≠ [] → ys ≠ [] → ∀ p o, H p = none → o.dict = none → Q (.ref p) (upd H p (.frz o (.tup (xs ++ ys)))))
theorem op_catF : OpR X (binaryOp .Add) (rCatF X.K) := by
  intro pins s σ H x y v u Q I rx ry h
  obtain ⟨a, b, xs, ys, rfl, rfl, ha, hb, hz, q0, q1, q2⟩ := h
  cases rx
  cases ry
  obtain ⟨its, r1, p1, _⟩ := I.tuple ha
  obtain ⟨its2, r2, p2, _⟩ := I.tuple hb
  by_cases hx : xs = []
  · subst hx
    cases r1
    exact cat_tup0 p1 p2 ⟨.ref b, H, I, rfl, q0 rfl⟩
  · refine HT.cat_tup p1 p2 (fun z => hx (r1.nil_iff.mp z)) (fun z => ⟨.ref a, H, I, rfl, q1 hx (r2.nil_iff.mp z)⟩) (fun z => ?_) (by rw [← r1.length, ← r2.length]; exact hz)
    exact ⟨.ref s.heap.objs.size, _, Inv.tupF (t' := s.toks) I (fun b ob q => Heap.get?_push_of_some _ q) (Nat.le_refl _) (Heap.get?_push_size _ rfl) (r1.append r2) (by rw [List.length_append]; exact hz), rfl, q2 hx (fun w => z (r2.nil_iff.mpr w)) _ _ (I.hok.fresh (Nat.le_refl _)) rfl⟩
def rSlF (K : PySem.W.Frag) : V → Option Int → Option Int → Hp → VK → Prop := fun x lo hi H Q => ∃ a xs, x = .ref a ∧ SqT K H a xs ∧
  (HT.sIx xs.length 0 lo = 0 ∧ HT.sIx xs.length xs.length hi = xs.length → Q (.ref a) H) ∧ (¬ (HT.sIx xs.length 0 lo = 0 ∧ HT.sIx xs.length xs.length hi = xs.length) → ∀ p o, H p = none → o.dict = none → Q (.ref p) (upd H p (.frz o (.tup (cutV xs lo hi)))))
theorem sl_tupF : SlR X (rSlF X.K) := by
  intro pins s σ H x v vl vu lo hi sl Q I rx hs pl pu h
  obtain ⟨a, xs, rfl, hx, q1, q2⟩ := h
  cases rx
  obtain ⟨its, r, ht, hz⟩ := I.tuple hx
  have hlen : its.toArray.size = xs.length := by rw [List.size_toArray]; exact r.length.symm
  by_cases hw : HT.sIx xs.length 0 lo = 0 ∧ HT.sIx xs.length xs.length hi = xs.length
  · refine ⟨"tuple", _, PyProof.Rows.slot_tuple_getitem.lookup, ht.typeIs, ?_⟩
    exact getItem_tuple_whole ht hs pl pu (by rw [hlen]; exact hw) ⟨.ref a, H, I, rfl, q1 hw⟩
  · refine ⟨"tuple", _, PyProof.Rows.slot_tuple_getitem.lookup, ht.typeIs, ?_⟩
    refine HT.getItem_tuple_cut ht hs pl pu (by rw [hlen]; exact hw) ?_ (by rw [hlen]; exact hz)
    rw [hlen]
    exact ⟨.ref s.heap.objs.size, _, Inv.tupF (t' := s.toks) I (fun b ob q => Heap.get?_push_of_some _ q) (Nat.le_refl _) (Heap.get?_push_size _ rfl) ((r.drop (HT.sIx xs.length 0 lo)).take (HT.sIx xs.length xs.length hi - HT.sIx xs.length 0 lo)) (Nat.le_trans (cutV_length xs lo hi) hz), rfl, q2 hw _ _ (I.hok.fresh (Nat.le_refl _)) rfl⟩
def tTupRgF (te : L2.St → Hp → (Int → Int → Hp → Prop) → Prop) : TE := fun σ H Q => te σ H fun a b H1 => RgOk a b ∧ ∀ q o, H1 q = none → o.dict = none → Q (.ref q) (upd H1 q (.frz o (.tup (rgV a b))))
theorem pe_tupRgF {e : Expr} {te : L2.St → Hp → (Int → Int → Hp → Prop) → Prop} {p pos : Pos} (hc : X.calm = true) (hg : Gl X "tuple") (hm : X.mg "tuple" = none) (he : PRg X e te) (na : starEach [e] X.env = (false, eval e X.env) :: starEach [] X.env := by rfl) : PE X (.Call (.Name "tuple" p) [e] [] pos) (tTupRgF te) := by
  refine ⟨fun pins s σ H Q I h => ?_⟩
  refine Call_ (ld_blt I hg hm boot_tuple (PyProof.Rows.callWith_type1 (args_cons (thn (he pins s σ H _ I h) fun x s1 ⟨r, a, b, t, u, v, H1, ex, hr, I1, ok, q⟩ => args_nil ?_) na) na))
  subst ex
  obtain ⟨b1, b2, b3, b4, b5⟩ := ok
  refine call_tuple_range (n := (b - a).toNat) (I1.ok.hd hc) hr (small_one b1 b2 b3 b4) (rangeSize_nat a b) b5 fun h' tk acc hk hi => ?_
  have I2 : Inv X pins σ H1 { s1 with heap := h', toks := tk } := I1.kept hk
  have I3 := Inv.tupF (a := h'.objs.size) (its := acc.toList) (h' := h'.push { cls := .type "tuple", data := .seq acc }) (t' := tk) I2 (fun c o e => Heap.get?_push_of_some _ e) (Nat.le_refl _) (by rw [Array.toArray_toList]; exact Heap.get?_push_size _ rfl) (vals_rg hi) (by rw [rgV_length, sizeLine_eq]; omega)
  exact ⟨.ref h'.objs.size, _, I3, rfl, q _ _ (I2.hok.fresh (Nat.le_refl _)) rfl⟩

/-! ### tuple.index of data -/
/-- a tuple as a method's receiver -/
def TupRc (K : PySem.W.Frag) (H : Hp) (p : Addr) : Prop := (∃ o xs, H p = some (.frz o (.tup xs)) ∧ o.dict = none) ∨ ∃ o, K.lookup p = some o ∧ o.cls = .type "tuple" ∧ o.dict = none
theorem tupRc_is {pins : List (Addr × Obj)} {σ : L2.St} {H : Hp} {s : Shared} {p : Addr} (I : Inv X pins σ H s) (h : TupRc X.K H p) : s.TypeIs (.ref p) "tuple" ∧ ∀ a, Value.ref p = .ref a → ∃ ob, s.heap.get? a = some ob ∧ ob.dict = none := by
  rcases h with ⟨o, xs, hp, hd⟩ | ⟨o, hk, hc, hd⟩
  · obtain ⟨e, _, its, _, o', e', c', _⟩ := I.hok p _ hp
    exact ⟨⟨o', e', c'⟩, fun a q => by cases q; exact ⟨o, e, hd⟩⟩
  · exact ⟨⟨o, I.kIn p o hk, hc⟩, fun a q => by cases q; exact ⟨o, I.kIn _ o hk, hd⟩⟩
def tTM (K : PySem.W.Frag) (r : V → List V → Hp → VK → Prop) (to : TE) (t : TA) : TE := fun σ H Q => to σ H fun x H1 => (∃ p, x = .ref p ∧ TupRc K H1 p) ∧ t σ H1 fun xs H2 => r x xs H2 Q
theorem pe_tm {o e : Expr} {es : List Expr} {to : TE} {t : TA} {name : Str} {apos cpos : Pos} {id : String} {r : V → List V → Hp → VK → Prop} (slot : Slot "tuple" name id) (hty : typeOf (.builtin id) = pure (.type "method_descriptor")) (hm : MtR X id r) (ho : PE X o to) (ha : PA X (e :: es) t)
    (hbase : attributeBase o name X.env (eval o X.env) = eval o X.env := by rfl)
    (hfew : ((backTo cpos (starEach (e :: es) X.env)).all (fun x => !x.1) && (backToKw cpos (keywordEach [] X.env)).all (fun x => x.1.isSome)
      && decide ((e :: es).length + ([] : List Keyword).length + (if ([] : List Keyword).isEmpty then 0 else 1) < 30)) = true := by rfl)
    (hline : (apos.endLine == cpos.line) = true := by rfl) (hs : starEach (e :: es) X.env = (false, eval e X.env) :: starEach es X.env := by rfl) (hplain : (backTo cpos (starEach es X.env)).any (·.1) = false := by rfl) :
    PE X (.Call (.Attribute o name apos) (e :: es) [] cpos) (tTM X.K r to t) := by
  refine ⟨fun pins s σ H Q I h => ?_⟩
  refine wpAny_Call_method_late hbase hfew hline rfl (thn (ho.run pins s σ H _ I h) fun v s1 ⟨x, H1, I1, r1, ⟨p, ex, ty⟩, q1⟩ => ?_)
  subst ex
  cases r1
  obtain ⟨h1, h2⟩ := tupRc_is I1 ty
  refine ⟨"tuple", id, PySem.F.plainAttrs_tuple, slot, hty, h1, h2, ?_⟩
  have hA := ha.run cpos pins s1 σ H1 _ I1 q1
  rw [hs] at hA ⊢
  refine Calls.callWith_builtin (by show (false || (backTo cpos (starEach es X.env)).any (·.1)) = false; rw [hplain] <;> rfl) (Calls.evalArgs_plain ?_)
  exact thn hA fun us s2 ⟨vs, H2, I2, r2, q2⟩ => hm pins s2 σ H2 (.ref p) vs _ us Q I2 rfl r2 q2
def rTIndexD (K : PySem.W.Frag) : V → List V → Hp → VK → Prop := fun x xs H Q => ∃ (a : Addr) (y : V) (d : PyData) (ds : List PyData) (j : Nat) (z : PyData), x = V.ref a ∧ xs = [y] ∧ Dp K H (V.ref a) (.tuple ds) ∧ Dp K H y d ∧
  SeqAt.shaped (.tuple ds) = true ∧ SeqAt.shaped d = true ∧ ds[j]? = some z ∧ PyData.eqv z d = true ∧ (∀ (m : Nat) (z' : PyData), m < j → ds[m]? = some z' → PyData.eqv z' d = false) ∧ Q (.int (j : Nat)) H
theorem mt_tindexD (hu : X.A.units + 65 < cLine) : MtR X "tuple.index" (rTIndexD X.K) := by
  intro pins s σ H x xs v us Q I rx rxs h
  obtain ⟨a, y, d, ds, j, z, rfl, rfl, hl, hy, sl, sd, hz, hzj, hno, q⟩ := h
  cases rx
  cases rxs with
  | cons ry rt =>
    rename_i uy ut
    cases rt
    obtain ⟨bs, r1⟩ := Dp.reads I d y uy hy ry
    have hxs : PyData.canLayAll0 ds = true := SeqAt.canLay_of_shaped sl
    have hroom : X.A.units + 1 + min (PyData.depthAll ds) d.depth < cLine := room_in_shaped sd hu
    cases hl with
    | tup hs ha =>
      obtain ⟨its, rv, ⟨⟨cls, dd, data, sls⟩, ho, hc, n, hdt⟩, hlen⟩ := I.tuple hs
      simp only at hc hdt
      subst hc hdt
      obtain ⟨as, h4⟩ := Dp.readsAll I ds _ its ha rv
      have hn : its.length = ds.length := SeqAt.ReadsAll.length ds its as h4
      have hmap : its.map (SeqAt.readOf s.heap) = ds := SeqAt.readsAll_map ds its as hxs h4
      have hvl := rv.length
      have hsl := sizeLine_eq
      obtain ⟨hjd, _⟩ := List.getElem?_eq_some_iff.mp hz
      have hjl : j < its.length := by omega
      have hj : j < its.toArray.size := by simpa using hjl
      have at_ : ∀ (m : Nat) (hm : m < its.toArray.size) (z' : PyData), ds[m]? = some z' → SeqAt.readOf s.heap its.toArray[m] = z' := by
        intro m hm z' hz'
        have hml : m < its.length := by simpa using hm
        rw [← hmap, List.getElem?_map, List.getElem?_eq_getElem hml] at hz'
        have e1 : SeqAt.readOf s.heap its[m] = z' := Option.some.inj (show some (SeqAt.readOf s.heap its[m]) = some z' from hz')
        simpa using e1
      refine call_meets PySem.F.slot_tuple_index ⟨_, ho, rfl⟩ PySem.F.entry_tuple_index (PySem.F.args_tuple_index_2 _ _)
        (TI.tuple_indexAt a its.toArray n dd sls uy (fun u => PyData.eqv (SeqAt.readOf s.heap u) d) j hj ?_ ?_) ⟨ho, SeqAt.items_eqAt (vs := its.toArray) (show ReadsAll s.heap its.toArray.toList ds as from h4) r1 hxs (SeqAt.canLay_of_shaped sd) hroom, ?_⟩
      · show PyData.eqv (SeqAt.readOf s.heap its.toArray[j]) d = true
        rw [at_ j hj z hz]
        exact hzj
      · intro m hm hmj
        have hmd : m < ds.length := by omega
        have hz' : ds[m]? = some ds[m] := List.getElem?_eq_getElem hmd
        show PyData.eqv (SeqAt.readOf s.heap its.toArray[m]) d = false
        rw [at_ m hm _ hz']
        exact hno m _ hmj hz'
      · exact ⟨.int (j : Nat), H, I.tok _, ⟨_, rfl⟩, q⟩

/-! ### xs[i] read by values, for xs[i] op= e -/
theorem get_list : PGet X (rIxL X.K) := by
  intro pins s σ H o i ov iv Q I ro ri h
  obtain ⟨p, xs, k, z, rfl, rfl, hq, he, q⟩ := h
  cases ro
  obtain ⟨t, rfl⟩ := ri
  obtain ⟨its, r, pl, hz⟩ := I.list hq
  obtain ⟨j, h1, h2, h3, h4, h5⟩ := atI_get he
  obtain ⟨w, ew, rw'⟩ := r.get h2
  have hl := r.length
  have hn := line63
  have fin : EP X pins σ Q w s := ⟨z, H, I, rw', q⟩
  by_cases h0 : 0 ≤ k
  · have hj : k.toNat = j := by
      rw [seqIndex_of h0 h5] at h1
      exact Option.some.inj h1
    exact wpAny_getItem_list pl.isList h0 (by omega) (by rw [hj]; simpa using ew) fin
  · have hj : (k + (its.toArray.size : Int)).toNat = j := by
      rw [seqIndex_neg (by omega) h4] at h1
      rw [List.size_toArray, ← hl]
      exact Option.some.inj h1
    exact wpAny_getItem_list_neg pl.isList (by omega) (by rw [List.size_toArray] <;> omega) (by omega) (by rw [hj]; simpa using ew) fin
end
end Z

/-! Z: values without a heap, and how they lie in the heap. -/
namespace Z
open PySem PySem.Spec PyProof.Rows L2

inductive D where
  | non | bl (b : Bool) | int (i : Int) | str (x : Str) | tup (l : List D) | lst (l : List D) | dct (ks : List D) (l : List D) | scr (l : List D)
  deriving Inhabited

mutual
def D.beq : D → D → Bool
  | .non, .non => true
  | .bl a, .bl b => a == b
  | .int a, .int b => a == b
  | .str a, .str b => a == b
  | .tup a, .tup b => D.beqL a b
  | .lst a, .lst b => D.beqL a b
  | .dct k a, .dct j b => D.beqL k j && D.beqL a b
  | .scr a, .scr b => D.beqL a b
  | _, _ => false
def D.beqL : List D → List D → Bool
  | [], [] => true
  | x :: xs, y :: ys => D.beq x y && D.beqL xs ys
  | _, _ => false
end
mutual
theorem D.beq_self : ∀ d : D, d.beq d = true
  | .non => by simp [D.beq]
  | .bl _ => by simp [D.beq]
  | .int _ => by simp [D.beq]
  | .str _ => by simp [D.beq]
  | .tup l => by simp [D.beq, D.beqL_self l]
  | .lst l => by simp [D.beq, D.beqL_self l]
  | .dct k l => by simp [D.beq, D.beqL_self k, D.beqL_self l]
  | .scr l => by simp [D.beq, D.beqL_self l]
theorem D.beqL_self : ∀ l : List D, D.beqL l l = true
  | [] => by simp [D.beqL]
  | x :: xs => by simp [D.beqL, D.beq_self x, D.beqL_self xs]
end
mutual
theorem D.beq_eq : ∀ d e : D, d.beq e = true → d = e
  | .non, e, h => by cases e <;> simp [D.beq] at h <;> rfl
  | .bl _, e, h => by cases e <;> simp [D.beq] at h <;> simp [h]
  | .int _, e, h => by cases e <;> simp [D.beq] at h <;> simp [h]
  | .str _, e, h => by cases e <;> simp [D.beq] at h <;> simp [h]
  | .tup l, e, h => by cases e <;> simp [D.beq] at h <;> rw [D.beqL_eq _ _ h]
  | .lst l, e, h => by cases e <;> simp [D.beq] at h <;> rw [D.beqL_eq _ _ h]
  | .dct k l, e, h => by cases e <;> simp [D.beq] at h <;> rw [D.beqL_eq _ _ h.1, D.beqL_eq _ _ h.2]
  | .scr l, e, h => by cases e <;> simp [D.beq] at h <;> rw [D.beqL_eq _ _ h]
theorem D.beqL_eq : ∀ l m : List D, D.beqL l m = true → l = m
  | [], m, h => by cases m <;> simp [D.beqL] at h <;> rfl
  | x :: xs, m, h => by
    cases m with
    | nil => simp [D.beqL] at h
    | cons y ys => simp [D.beqL] at h; rw [D.beq_eq _ _ h.1, D.beqL_eq _ _ h.2]
end
instance : DecidableEq D := fun a b => if h : D.beq a b = true then .isTrue (D.beq_eq a b h) else .isFalse fun e => h (e ▸ D.beq_self a)

/-! ### keys of dicts -/
/-- a key: a number or a text -/
def kD : Key → D
  | .inl i => .int i
  | .inr x => .str x
mutual
def D.nk : D → NestedKey
  | .int i => .num i
  | .tup l => .tup (D.nkL l)
  | _ => .none
def D.nkL : List D → List NestedKey
  | [] => []
  | d :: r => D.nk d :: D.nkL r
end
/-- numbers, None and tuples of these, n deep -/
def D.kk : Nat → D → Bool
  | _, .int _ => true
  | _, .non => true
  | n + 1, .tup l => l.all (D.kk n)
  | _, _ => false
def D.tk : D → Bool
  | .tup l => l.all (D.kk 7)
  | _ => false
/-- the object of a dict whose keys are tuples, entry by entry -/
def ExD (ob : Obj) (a : Addr) (xs : List (D × Addr × Value)) : Prop :=
  (a == sysModules) = false ∧ ob.ExactDict ∧ xs.length ≤ sizeLine ∧ xs ≠ [] ∧ (∀ x ∈ xs, x.1.tk = true) ∧ (xs.map fun x => x.1.nk).Nodup ∧
  ∃ es ep, ob.data = .dict es ep ∧ ∀ W : World, es.toList = xs.map fun x => ⟨x.1.nk.hash W, .ref x.2.1, x.2.2⟩

/-! ### who may write -/
inductive Own where
  | no | out | sl (i : Nat) | tm (n : Nat)
  deriving DecidableEq
abbrev OM := Addr → Own
def OM.re (w : OM) (o o' : Own) : OM := fun a => if w a = o then o' else w a
theorem OM.re_eq {w : OM} {o o' : Own} {a : Addr} (h : w a = o) : w.re o o' a = o' := by unfold OM.re; rw [if_pos h]
theorem OM.re_ne {w : OM} {o o' : Own} {a : Addr} (h : w a ≠ o) : w.re o o' a = w a := by unfold OM.re; rw [if_neg h]
def OM.put (w : OM) (p : Addr) (o : Own) : OM := fun a => if a = p then o else w a
theorem OM.put_same {w : OM} {p : Addr} {o : Own} : w.put p o p = o := by unfold OM.put; rw [if_pos rfl]
theorem OM.put_ne {w : OM} {p a : Addr} {o : Own} (h : a ≠ p) : w.put p o a = w a := by unfold OM.put; rw [if_neg h]

section
variable (K : PySem.W.Frag) (H : Hp) (w : OM)
def TupAt (a : Addr) (vs : List V) : Prop := ((∃ o, H a = some (.frz o (.tup vs)) ∧ o.dict = none) ∧ w a = .no) ∨
  ∃ (o : Obj) (its : Array Value) (n : Nat), K.lookup a = some o ∧ o.cls = .type "tuple" ∧ o.dict = none ∧ o.data = .seq its n ∧ its.size ≤ sizeLine ∧ Vals vs its.toList
def LstAt (a : Addr) (vs : List V) : Prop := (Rd H a (.lst vs) ∧ w a = .no) ∨
  ∃ (o : Obj) (its : Array Value) (n : Nat), K.lookup a = some o ∧ o.cls = .type "list" ∧ o.dict = none ∧ o.data = .seq its n ∧ its.size ≤ sizeLine ∧ Vals vs its.toList
mutual
/-- a value that nobody changes any more -/
inductive Fz : D → V → Prop
  | non : Fz .non .non
  | bl (b : Bool) : Fz (.bl b) (.bl b)
  | int (i : Int) : Fz (.int i) (.int i)
  | str (x : Str) : Fz (.str x) (.str x)
  | tup {a : Addr} {vs : List V} {ds : List D} : TupAt K H w a vs → FzL ds vs → Fz (.tup ds) (.ref a)
  | lst {a : Addr} {vs : List V} {ds : List D} : H a = some (.lst vs) → w a = .no → FzL ds vs → Fz (.lst ds) (.ref a)
  | scr {a : Addr} {vs : List V} {ds : List D} : LstAt K H w a vs → FzL ds vs → Fz (.scr ds) (.ref a)
  | dct {a : Addr} {kvs : List (Key × V)} {ks : List D} {ds : List D} : Rd H a (.dK kvs) → w a = .no → (kvs.map fun p => kD p.1) = ks → FzL ds (kvs.map (·.2)) → Fz (.dct ks ds) (.ref a)
  | dcu {a : Addr} {ob : Obj} {xs : List (D × Addr × Value)} {ks ds : List D} {vs : List V} : H a = some (.ext fun h => h.get? a = some ob) → w a = .no → ExD ob a xs → xs.map (·.1) = ks → FzL ks (xs.map fun x => .ref x.2.1) → Vals vs (xs.map (·.2.2)) → FzL ds vs → Fz (.dct ks ds) (.ref a)
inductive FzL : List D → List V → Prop
  | nil : FzL [] []
  | cons {d : D} {v : V} {ds : List D} {vs : List V} : Fz d v → FzL ds vs → FzL (d :: ds) (v :: vs)
end
inductive Ow1L (o : Own) : List D → List V → Prop
  | nil : Ow1L o [] []
  | cons {a : Addr} {ws : List V} {e : List D} {ds : List D} {vs : List V} : H a = some (.lst ws) → w a = o → FzL K H w e ws → Ow1L o ds vs → Ow1L o (.lst e :: ds) (.ref a :: vs)
/-- a value owned by o, k levels deep -/
inductive Ow (o : Own) : Nat → D → V → Prop
  | fz {d : D} {v : V} : Fz K H w d v → Ow o 0 d v
  | lst {a : Addr} {vs : List V} {ds : List D} : H a = some (.lst vs) → w a = o → FzL K H w ds vs → Ow o 1 (.lst ds) (.ref a)
  | dct {a : Addr} {kvs : List (Key × V)} {ks : List D} {ds : List D} : H a = some (.dK kvs) → w a = o → (kvs.map fun p => kD p.1) = ks → FzL K H w ds (kvs.map (·.2)) → Ow o 1 (.dct ks ds) (.ref a)
  | dcu {a : Addr} {ob : Obj} {xs : List (D × Addr × Value)} {ks ds : List D} {vs : List V} : H a = some (.ext fun h => h.get? a = some ob) → w a = o → ExD ob a xs → xs.map (·.1) = ks → FzL K H w ks (xs.map fun x => .ref x.2.1) → Vals vs (xs.map (·.2.2)) → FzL K H w ds vs → Ow o 1 (.dct ks ds) (.ref a)
  | lst2 {a : Addr} {vs : List V} {ds : List D} : H a = some (.lst vs) → w a = o → Ow1L K H w o ds vs → (V.ref a :: vs).Nodup → Ow o 2 (.lst ds) (.ref a)
end

section
variable {K : PySem.W.Frag} {H H' : Hp} {w w' : OM} {o o' : Own} {a : Addr} {vs : List V} {d : D} {v : V} {ds : List D} {k : Nat}
theorem TupAt.sq (h : TupAt K H w a vs) : SqT K H a vs := by
  rcases h with ⟨⟨o, h, _⟩, _⟩ | ⟨o, its, n, h1, h2, _, h3⟩
  · exact .inl (.inr ⟨o, h⟩)
  · exact .inr ⟨o, its, n, h1, h2, h3⟩
theorem TupAt.rc (h : TupAt K H w a vs) : TupRc K H a := by
  rcases h with ⟨⟨o, h, hd⟩, _⟩ | ⟨o, its, n, h1, h2, h3, _⟩
  · exact .inl ⟨o, vs, h, hd⟩
  · exact .inr ⟨o, h1, h2, h3⟩
theorem LstAt.sq (h : LstAt K H w a vs) : SqL K H a vs := by
  rcases h with ⟨h, _⟩ | h
  · exact .inl h
  · exact .inr h
theorem FzL.length : ∀ {ds : List D} {vs : List V}, FzL K H w ds vs → ds.length = vs.length
  | _, _, .nil => rfl
  | _, _, .cons _ t => by rw [List.length_cons, List.length_cons, FzL.length t]
theorem FzL.get : ∀ {ds : List D} {vs : List V} {i : Nat} {d : D}, FzL K H w ds vs → ds[i]? = some d → ∃ v, vs[i]? = some v ∧ Fz K H w d v
  | _, _, _, _, .nil, e => by simp at e
  | _, _, 0, _, .cons r _, e => by simp at e; subst e; exact ⟨_, rfl, r⟩
  | _, _, i + 1, _, .cons _ t, e => by simpa using FzL.get t (i := i) (by simpa using e)
theorem FzL.append : ∀ {ds es : List D} {vs us : List V}, FzL K H w ds vs → FzL K H w es us → FzL K H w (ds ++ es) (vs ++ us)
  | _, _, _, _, .nil, s => s
  | _, _, _, _, .cons r t, s => .cons r (FzL.append t s)
theorem FzL.take : ∀ {ds : List D} {vs : List V} (n : Nat), FzL K H w ds vs → FzL K H w (ds.take n) (vs.take n)
  | _, _, 0, _ => .nil
  | _, _, _ + 1, .nil => .nil
  | _, _, n + 1, .cons r t => .cons r (FzL.take n t)
theorem FzL.drop : ∀ {ds : List D} {vs : List V} (n : Nat), FzL K H w ds vs → FzL K H w (ds.drop n) (vs.drop n)
  | _, _, 0, r => r
  | _, _, _ + 1, .nil => .nil
  | _, _, n + 1, .cons _ t => FzL.drop n t
theorem FzL.set (r : Fz K H w d v) : ∀ {ds : List D} {vs : List V} (i : Nat), FzL K H w ds vs → FzL K H w (ds.set i d) (vs.set i v)
  | _, _, _, .nil => .nil
  | _, _, 0, .cons _ t => .cons r t
  | _, _, i + 1, .cons q t => .cons q (FzL.set r i t)
theorem FzL.eraseIdx : ∀ {ds : List D} {vs : List V} (i : Nat), FzL K H w ds vs → FzL K H w (ds.eraseIdx i) (vs.eraseIdx i)
  | _, _, _, .nil => .nil
  | _, _, 0, .cons _ t => t
  | _, _, i + 1, .cons q t => .cons q (FzL.eraseIdx i t)
theorem FzL.reverse {ds : List D} {vs : List V} (h : FzL K H w ds vs) : FzL K H w ds.reverse vs.reverse := by
  induction h using FzL.rec (motive_1 := fun _ _ _ => True) with
  | nil => exact .nil
  | cons r t _ ih => rw [List.reverse_cons, List.reverse_cons]; exact ih.append (.cons r .nil)
  | _ => trivial
theorem FzL.dropLast {ds : List D} {vs : List V} (h : FzL K H w ds vs) : FzL K H w ds.dropLast vs.dropLast := by
  rw [List.dropLast_eq_take, List.dropLast_eq_take, h.length]
  exact h.take _
theorem FzL.rep {ds : List D} {vs : List V} (h : FzL K H w ds vs) : ∀ k : Nat, FzL K H w (List.replicate k ds).flatten (List.replicate k vs).flatten
  | 0 => .nil
  | k + 1 => by
    rw [List.replicate_succ, List.replicate_succ, List.flatten_cons, List.flatten_cons]
    exact h.append (FzL.rep h k)
theorem FzL.ints : ∀ {ns : List Int} {vs : List V}, FzL K H w (ns.map D.int) vs → vs = ns.map V.int
  | [], _, .nil => rfl
  | n :: ns, _, .cons (.int _) t => by rw [FzL.ints t]; rfl
theorem FzL.bls : ∀ {ns : List Bool} {vs : List V}, FzL K H w (ns.map D.bl) vs → vs = ns.map V.bl
  | [], _, .nil => rfl
  | n :: ns, _, .cons (.bl _) t => by rw [FzL.bls t]; rfl
/-! ### what steps keep -/
/-- what is frozen at (H, w) is so at (H', w') -/
def Kp (o : Own) (H : Hp) (w : OM) (H' : Hp) (w' : OM) : Prop := ∀ a x, H a = some x → (w a = .no ∨ w a = o) → H' a = some x ∧ w' a = w a
theorem Kp.rd {u : HO} (k : Kp o H w H' w') (h : Rd H a u) (n : w a = .no) : Rd H' a u ∧ w' a = .no := by
  rcases h with h | ⟨q, h⟩
  · obtain ⟨h1, h2⟩ := k a _ h (.inl n)
    exact ⟨.inl h1, h2.trans n⟩
  · obtain ⟨h1, h2⟩ := k a _ h (.inl n)
    exact ⟨.inr ⟨q, h1⟩, h2.trans n⟩
theorem TupAt.step (k : Kp o H w H' w') (h : TupAt K H w a vs) : TupAt K H' w' a vs := by
  rcases h with ⟨⟨q, h, hd⟩, n⟩ | h
  · exact .inl ⟨⟨q, (k a _ h (.inl n)).1, hd⟩, (k a _ h (.inl n)).2.trans n⟩
  · exact .inr h
theorem LstAt.step (k : Kp o H w H' w') (h : LstAt K H w a vs) : LstAt K H' w' a vs := by
  rcases h with ⟨h, n⟩ | h
  · exact .inl (k.rd h n)
  · exact .inr h
mutual
theorem Fz.step (k : Kp o H w H' w') : ∀ {d : D} {v : V}, Fz K H w d v → Fz K H' w' d v
  | _, _, .non => .non
  | _, _, .bl b => .bl b
  | _, _, .int i => .int i
  | _, _, .str x => .str x
  | _, _, .tup h t => .tup (h.step k) (FzL.step k t)
  | _, _, .lst h n t => .lst (k _ _ h (.inl n)).1 ((k _ _ h (.inl n)).2.trans n) (FzL.step k t)
  | _, _, .scr h t => .scr (h.step k) (FzL.step k t)
  | _, _, .dct h n e t => .dct (k.rd h n).1 (k.rd h n).2 e (FzL.step k t)
  | _, _, .dcu h n x e q r t => .dcu (k _ _ h (.inl n)).1 ((k _ _ h (.inl n)).2.trans n) x e (FzL.step k q) r (FzL.step k t)
theorem FzL.step (k : Kp o H w H' w') : ∀ {ds : List D} {vs : List V}, FzL K H w ds vs → FzL K H' w' ds vs
  | _, _, .nil => .nil
  | _, _, .cons h t => .cons (Fz.step k h) (FzL.step k t)
end
theorem Ow1L.step (k : Kp o H w H' w') : ∀ {ds : List D} {vs : List V}, Ow1L K H w o ds vs → Ow1L K H' w' o ds vs
  | _, _, .nil => .nil
  | _, _, .cons h n t r => .cons (k _ _ h (.inr n)).1 ((k _ _ h (.inr n)).2.trans n) (t.step k) (Ow1L.step k r)
theorem Ow.step (k' : Kp o H w H' w') (h : Ow K H w o k d v) : Ow K H' w' o k d v := by
  cases h with
  | fz h => exact .fz (h.step k')
  | lst h n t => exact .lst (k' _ _ h (.inr n)).1 ((k' _ _ h (.inr n)).2.trans n) (t.step k')
  | dct h n e t => exact .dct (k' _ _ h (.inr n)).1 ((k' _ _ h (.inr n)).2.trans n) e (t.step k')
  | dcu h n x e q r t => exact .dcu (k' _ _ h (.inr n)).1 ((k' _ _ h (.inr n)).2.trans n) x e (q.step k') r (t.step k')
  | lst2 h n t nd => exact .lst2 (k' _ _ h (.inr n)).1 ((k' _ _ h (.inr n)).2.trans n) (t.step k') nd

/-! ### relabelling -/
theorem Kp.re (ho : o ≠ .no) (o1 : Own) (h1 : o1 ≠ o) : Kp o1 H w H (w.re o o') := fun a x e h => by
  refine ⟨e, OM.re_ne ?_⟩
  rcases h with h | h
  · rw [h]; exact ho.symm
  · rw [h]; exact h1
theorem Fz.re (ho : o ≠ .no) (h : Fz K H w d v) : Fz K H (w.re o o') d v := h.step (Kp.re ho .no ho.symm)
theorem FzL.re (ho : o ≠ .no) (h : FzL K H w ds vs) : FzL K H (w.re o o') ds vs := h.step (Kp.re ho .no ho.symm)
theorem Ow.other {o1 : Own} (ho : o ≠ .no) (h1 : o1 ≠ o) (h : Ow K H w o1 k d v) : Ow K H (w.re o o') o1 k d v := h.step (Kp.re ho o1 h1)
theorem Ow1L.re (ho : o ≠ .no) : ∀ {ds : List D} {vs : List V}, Ow1L K H w o ds vs → Ow1L K H (w.re o o') o' ds vs
  | _, _, .nil => .nil
  | _, _, .cons h n t r => .cons h (OM.re_eq n) (t.re ho) (Ow1L.re ho r)
theorem Ow.re (ho : o ≠ .no) (h : Ow K H w o k d v) : Ow K H (w.re o o') o' k d v := by
  cases h with
  | fz h => exact .fz (h.re ho)
  | lst h n t => exact .lst h (OM.re_eq n) (t.re ho)
  | dct h n e t => exact .dct h (OM.re_eq n) e (t.re ho)
  | dcu h n x e q r t => exact .dcu h (OM.re_eq n) x e (q.re ho) r (t.re ho)
  | lst2 h n t nd => exact .lst2 h (OM.re_eq n) (t.re ho) nd
theorem Ow1L.freeze (ho : o ≠ .no) : ∀ {ds : List D} {vs : List V}, Ow1L K H w o ds vs → FzL K H (w.re o .no) ds vs
  | _, _, .nil => .nil
  | _, _, .cons h n t r => .cons (.lst h (OM.re_eq n) (t.re ho)) (Ow1L.freeze ho r)
theorem Ow.freeze (ho : o ≠ .no) (h : Ow K H w o k d v) : Fz K H (w.re o .no) d v := by
  cases h with
  | fz h => exact h.re ho
  | lst h n t => exact .lst h (OM.re_eq n) (t.re ho)
  | dct h n e t => exact .dct (.inl h) (OM.re_eq n) e (t.re ho)
  | dcu h n x e q r t => exact .dcu h (OM.re_eq n) x e (q.re ho) r (t.re ho)
  | lst2 h n t nd => exact .lst h (OM.re_eq n) (t.freeze ho)
end

/-! ### environments -/
/-- a slot: its value, how deep it may be written -/
structure Cell where
  d : D
  k : Nat := 0
  deriving DecidableEq, Inhabited
abbrev Env := List (Option Cell)
def Env.get : Env → Nat → Option Cell
  | [], _ => none
  | c :: _, 0 => c
  | _ :: r, n + 1 => Env.get r n
def Env.set : Env → Nat → Option Cell → Env
  | [], _, _ => []
  | _ :: r, 0, c => c :: r
  | x :: r, n + 1, c => x :: Env.set r n c
theorem Env.get_set_same : ∀ {ρ : Env} {i : Nat} {c x : Option Cell}, i < ρ.length → (Env.set ρ i c).get i = c
  | [], _, _, _, h => by simp at h
  | _ :: _, 0, _, _, _ => rfl
  | _ :: r, i + 1, c, x, h => Env.get_set_same (ρ := r) (x := x) (by simpa using h)
theorem Env.get_set_ne : ∀ {ρ : Env} {i j : Nat} {c : Option Cell}, j ≠ i → (Env.set ρ i c).get j = ρ.get j
  | [], _, _, _, _ => rfl
  | _ :: _, 0, 0, _, h => absurd rfl h
  | _ :: _, 0, _ + 1, _, _ => rfl
  | _ :: _, _ + 1, 0, _, _ => rfl
  | _ :: r, i + 1, j + 1, _, h => Env.get_set_ne (ρ := r) (fun e => h (by rw [e]))
theorem Env.length_set : ∀ {ρ : Env} {i : Nat} {c : Option Cell}, (Env.set ρ i c).length = ρ.length
  | [], _, _ => rfl
  | _ :: _, 0, _ => rfl
  | _ :: r, i + 1, c => by show (Env.set r i c).length + 1 = _; rw [Env.length_set]; rfl
theorem Env.get_lt : ∀ {ρ : Env} {i : Nat} {c : Cell}, ρ.get i = some c → i < ρ.length
  | [], _, _, h => by cases h
  | _ :: _, 0, _, _ => by simp
  | _ :: r, i + 1, _, h => by have := Env.get_lt (ρ := r) h; simp; omega
theorem Env.get_set {ρ : Env} {i j : Nat} {c : Option Cell} {x : Cell} (h : (Env.set ρ i c).get j = some x) : (j = i ∧ c = some x) ∨ (j ≠ i ∧ ρ.get j = some x) := by
  by_cases e : j = i
  · subst e
    have hl : j < ρ.length := by have := Env.get_lt h; rwa [Env.length_set] at this
    rw [Env.get_set_same (x := none) hl] at h
    exact .inl ⟨rfl, h⟩
  · rw [Env.get_set_ne e] at h
    exact .inr ⟨e, h⟩

/-! ### results -/
inductive R (α : Type) where
  | ok (a : α) | exc (c : Str) (ds : List D) | bad
def R.bind {α β : Type} : R α → (α → R β) → R β
  | .ok a, f => f a
  | .exc c ds, _ => .exc c ds
  | .bad, _ => .bad
instance : Monad R where
  pure := R.ok
  bind := R.bind
@[simp] theorem R.ok_bind {α β : Type} (a : α) (f : α → R β) : (R.ok a >>= f) = f a := rfl
@[simp] theorem R.bad_bind {α β : Type} (f : α → R β) : ((R.bad : R α) >>= f) = R.bad := rfl
@[simp] theorem R.exc_bind {α β : Type} (c : Str) (ds : List D) (f : α → R β) : ((R.exc c ds : R α) >>= f) = R.exc c ds := rfl
@[simp] theorem R.pure_eq {α : Type} (a : α) : (pure a : R α) = .ok a := rfl
theorem R.of_bind {α β : Type} {r : R α} {f : α → R β} {b : β} (h : (r >>= f) = .ok b) : ∃ a, r = .ok a ∧ f a = .ok b := by
  cases r with
  | ok a => exact ⟨a, rfl, h⟩
  | exc c ds => cases h
  | bad => cases h

/-! ### states -/
section
variable (K : PySem.W.Frag) (H : Hp) (w : OM)
structure Ok (σ : L2.St) (ρ : Env) : Prop where
  len : σ.length = ρ.length
  slot : ∀ i c, ρ.get i = some c → ∃ v, σ[i]? = some (some v) ∧ Ow K H w (.sl i) c.k c.d v
  live : ∀ a, w a ≠ .no → H a ≠ none
end
def Fixed (n : Nat) (o : Own) : Prop := o = .no ∨ o = .out ∨ ∃ j, j < n ∧ o = .tm j
theorem Fixed.mono {n m : Nat} {o : Own} (h : n ≤ m) (f : Fixed n o) : Fixed m o := by
  rcases f with f | f | ⟨j, hj, f⟩
  · exact .inl f
  · exact .inr (.inl f)
  · exact .inr (.inr ⟨j, by omega, f⟩)
theorem not_fixed_sl {n i : Nat} : ¬ Fixed n (.sl i) := by
  rintro (f | f | ⟨j, _, f⟩) <;> cases f
theorem not_fixed_tm {n : Nat} : ¬ Fixed n (.tm n) := by
  rintro (f | f | ⟨j, h, f⟩)
  · cases f
  · cases f
  · cases f; omega
/-- a step that may write the slots, not what is pending below n -/
def Step (n : Nat) (H : Hp) (w : OM) (H' : Hp) (w' : OM) : Prop := ∀ a x, H a = some x → Fixed n (w a) → H' a = some x ∧ w' a = w a
section
variable {K : PySem.W.Frag} {H H' H1 H2 : Hp} {w w' w1 w2 : OM} {n m : Nat} {σ : L2.St} {ρ : Env} {o o' : Own} {a : Addr} {k : Nat} {d : D} {v : V}
theorem Step.refl : Step n H w H w := fun _ _ h _ => ⟨h, rfl⟩
theorem Step.trans (a : Step n H w H1 w1) (b : Step n H1 w1 H2 w2) : Step n H w H2 w2 := fun p x h f => by
  obtain ⟨h1, e1⟩ := a p x h f
  obtain ⟨h2, e2⟩ := b p x h1 (by rw [e1]; exact f)
  exact ⟨h2, e2.trans e1⟩
theorem Step.mono (h : n ≤ m) (a : Step m H w H' w') : Step n H w H' w' := fun p x e f => a p x e (f.mono h)
theorem Step.kp (a : Step n H w H' w') (f : Fixed n o) : Kp o H w H' w' := fun p x e h => a p x e (by
  rcases h with h | h
  · rw [h]; exact .inl rfl
  · rw [h]; exact f)
theorem Step.fz (a : Step n H w H' w') (h : Fz K H w d v) : Fz K H' w' d v := h.step (a.kp (o := .no) (.inl rfl))
theorem Step.tm (a : Step n H w H' w') (j : Nat) (hj : j < n) (h : Ow K H w (.tm j) k d v) : Ow K H' w' (.tm j) k d v := h.step (a.kp (.inr (.inr ⟨j, hj, rfl⟩)))
/-- a label is changed that n does not fix -/
theorem Step.re (ho : ¬ Fixed n o) : Step n H w H (w.re o o') := fun a x e f => ⟨e, OM.re_ne fun z => ho (by rw [← z]; exact f)⟩
/-- a fresh object -/
theorem Step.new {p : Addr} {u : HO} (hp : H p = none) : Step n H w (upd H p u) (w.put p o) := fun a x e f => by
  have h : a ≠ p := ne_of_none e hp
  exact ⟨by rw [upd_ne h]; exact e, OM.put_ne h⟩
/-- an object written whose owner n does not fix -/
theorem Step.write {p : Addr} {u : HO} (ho : ¬ Fixed n (w p)) : Step n H w (upd H p u) w := fun a x e f => by
  have h : a ≠ p := fun z => ho (by rw [← z]; exact f)
  exact ⟨by rw [upd_ne h]; exact e, rfl⟩
theorem Kp.new {p : Addr} {u : HO} (hp : H p = none) (o1 : Own) : Kp o1 H w (upd H p u) (w.put p o) := fun a x e f => by
  have h : a ≠ p := ne_of_none e hp
  exact ⟨by rw [upd_ne h]; exact e, OM.put_ne h⟩
theorem Kp.write {p : Addr} {u : HO} {o1 : Own} (h0 : w p ≠ .no) (h1 : w p ≠ o1) : Kp o1 H w (upd H p u) w := fun a x e f => by
  have h : a ≠ p := fun z => by
    subst z
    rcases f with f | f
    · exact h0 f
    · exact h1 f
  exact ⟨by rw [upd_ne h]; exact e, rfl⟩
theorem Ok.new {p : Addr} {u : HO} (ok : Ok K H w σ ρ) (hp : H p = none) (o : Own) : Ok K (upd H p u) (w.put p o) σ ρ := by
  refine ⟨ok.len, fun i c e => ?_, fun a h => ?_⟩
  · obtain ⟨v, e1, h⟩ := ok.slot i c e
    exact ⟨v, e1, h.step (Kp.new hp _)⟩
  · by_cases z : a = p
    · subst z; rw [upd_same]; exact fun q => nomatch q
    · rw [upd_ne z]; rw [OM.put_ne z] at h; exact ok.live a h
/-- what is of a temp becomes frozen, or another temp's, the slots stay -/
theorem Ok.re (ok : Ok K H w σ ρ) (ho : o ≠ .no) (hs : ∀ i, o ≠ .sl i) : Ok K H (w.re o o') σ ρ := by
  refine ⟨ok.len, fun i c e => ?_, fun a h => ?_⟩
  · obtain ⟨v, e1, h⟩ := ok.slot i c e
    exact ⟨v, e1, h.other ho (hs i).symm⟩
  · by_cases z : w a = o
    · exact ok.live a (by rw [z]; exact ho)
    · rw [OM.re_ne z] at h; exact ok.live a h
/-- a slot is frozen -/
theorem Ok.freeze {i : Nat} {c : Cell} (ok : Ok K H w σ ρ) (e : ρ.get i = some c) : Ok K H (w.re (.sl i) .no) σ (ρ.set i (some ⟨c.d, 0⟩)) := by
  refine ⟨by rw [Env.length_set]; exact ok.len, fun j x q => ?_, fun a h => ?_⟩
  · rcases Env.get_set q with ⟨ej, qx⟩ | ⟨hj, q⟩
    · subst ej
      cases qx
      obtain ⟨v, e1, h⟩ := ok.slot j c e
      exact ⟨v, e1, .fz (h.freeze (by intro z; cases z))⟩
    · obtain ⟨v, e1, h⟩ := ok.slot j x q
      exact ⟨v, e1, h.other (by intro z; cases z) (by intro z; cases z; exact hj rfl)⟩
  · by_cases z : w a = .sl i
    · exact ok.live a (by rw [z]; intro q; cases q)
    · rw [OM.re_ne z] at h; exact ok.live a h
end
end Z

/-! Z: expressions. -/
namespace Z
open PySem PySem.Spec PyProof.Rows L2

inductive Src where
  | v (c : Cell) | s (i : Nat)
def Src.cell (ρ : Env) : Src → Option Cell
  | .v c => some c
  | .s i => ρ.get i
abbrev AE := Env → R (Src × Env)
def cells (ρ : Env) : List Src → Option (List Cell)
  | [] => some []
  | s :: ss => match s.cell ρ, cells ρ ss with
    | some c, some cs => some (c :: cs)
    | _, _ => none
def evs : List AE → Env → R (List Src × Env)
  | [], ρ => .ok ([], ρ)
  | m :: ms, ρ => do
    let (s, ρ1) ← m ρ
    let (ss, ρ2) ← evs ms ρ1
    R.ok (s :: ss, ρ2)
def SrcAt (K : PySem.W.Frag) (H : Hp) (w : OM) (σ : L2.St) (n : Nat) : Src → V → Prop
  | .v c, v => Ow K H w (.tm n) c.k c.d v
  | .s i, v => σ[i]? = some (some v)
def SrcsAt (K : PySem.W.Frag) (H : Hp) (w : OM) (σ : L2.St) : Nat → List Src → List V → Prop
  | _, [], [] => True
  | n, s :: ss, v :: vs => SrcAt K H w σ n s v ∧ SrcsAt K H w σ (n + 1) ss vs
  | _, _, _ => False
/-- values by cells, whoever owns them -/
inductive OwA (K : PySem.W.Frag) (H : Hp) (w : OM) : List Cell → List V → Prop
  | nil : OwA K H w [] []
  | cons {c : Cell} {v : V} {cs : List Cell} {vs : List V} {o : Own} : o ≠ .no → Ow K H w o c.k c.d v → OwA K H w cs vs → OwA K H w (c :: cs) (v :: vs)
section
variable {K : PySem.W.Frag} {H H' : Hp} {w w' : OM} {σ : L2.St} {ρ : Env} {n m : Nat}
theorem SrcAt.step {s : Src} {v : V} (h : SrcAt K H w σ n s v) (st : Step m H w H' w') (hm : n < m) : SrcAt K H' w' σ n s v := by
  cases s with
  | v c => exact st.tm n hm h
  | s i => exact h
theorem SrcAt.cell {s : Src} {v : V} {c : Cell} (ok : Ok K H w σ ρ) (h : SrcAt K H w σ n s v) (e : s.cell ρ = some c) : ∃ o, o ≠ .no ∧ Ow K H w o c.k c.d v := by
  cases s with
  | v c' =>
    cases (show some c' = some c from e)
    exact ⟨.tm n, (by intro z; cases z), h⟩
  | s i =>
    obtain ⟨u, e1, q⟩ := ok.slot i c e
    have h : σ[i]? = some (some v) := h
    rw [h] at e1
    cases e1
    exact ⟨.sl i, (by intro z; cases z), q⟩
theorem SrcsAt.cells : ∀ {ss : List Src} {vs : List V} {cs : List Cell} {n : Nat}, Ok K H w σ ρ → SrcsAt K H w σ n ss vs → Z.cells ρ ss = some cs → OwA K H w cs vs
  | [], [], cs, n, ok, h, e => by cases e; exact .nil
  | [], _ :: _, _, _, _, h, _ => h.elim
  | _ :: _, [], _, _, _, h, _ => h.elim
  | s :: ss, v :: vs, cs, n, ok, ⟨h, t⟩, e => by
    unfold Z.cells at e
    cases e1 : s.cell ρ with
    | none => rw [e1] at e; cases e
    | some c =>
      cases e2 : Z.cells ρ ss with
      | none => rw [e1, e2] at e; cases e
      | some cs' =>
        rw [e1, e2] at e
        cases e
        obtain ⟨o, ho, q⟩ := h.cell ok e1
        exact .cons ho q (SrcsAt.cells ok t e2)
end

/-! ### what holds of an expression -/
structure SA (X : Cx) (e : Expr) (m : AE) : Prop where
  ex : ∃ t, PE X e t ∧ ∀ (n : Nat) (σ : L2.St) (H : Hp) (w : OM) (ρ : Env) (s : Src) (ρ' : Env) (Q : VK), Ok X.K H w σ ρ → m ρ = .ok (s, ρ') →
    (∀ v H' w', Ok X.K H' w' σ ρ' → Step n H w H' w' → SrcAt X.K H' w' σ n s v → Q v H') → t σ H Q
structure SAs (X : Cx) (es : List Expr) (ms : List AE) : Prop where
  ex : ∃ t, PA X es t ∧ ∀ (n : Nat) (σ : L2.St) (H : Hp) (w : OM) (ρ : Env) (ss : List Src) (ρ' : Env) (Q : List V → Hp → Prop), Ok X.K H w σ ρ → evs ms ρ = .ok (ss, ρ') →
    (∀ vs H' w', Ok X.K H' w' σ ρ' → Step n H w H' w' → SrcsAt X.K H' w' σ n ss vs → Q vs H') → t σ H Q
theorem PE.or {X : Cx} {e : Expr} {t u : TE} (h : PE X e t) (h' : PE X e u) : PE X e (fun σ H Q => t σ H Q ∨ u σ H Q) := ⟨fun pins s σ H Q I q => by
  rcases q with q | q
  · exact h.run pins s σ H Q I q
  · exact h'.run pins s σ H Q I q⟩
section
variable {X : Cx} {e a b : Expr} {es : List Expr} {m ma mb : AE} {ms : List AE} {pos : Pos}
theorem sas_nil : SAs X [] [] := ⟨_, pa_nil, fun n σ H w ρ ss ρ' Q ok h k => by
  cases h
  exact k [] H w ok Step.refl trivial⟩
theorem sas_cons (ha : SA X e m) (hr : SAs X es ms) (hs : starEach (e :: es) X.env = (false, eval e X.env) :: starEach es X.env := by rfl) : SAs X (e :: es) (m :: ms) := by
  obtain ⟨t, p, h⟩ := ha.ex
  obtain ⟨u, q, g⟩ := hr.ex
  refine ⟨_, pa_cons p q hs, fun n σ H w ρ ss ρ' Q ok hm k => ?_⟩
  obtain ⟨⟨s, ρ1⟩, e1, hm⟩ := R.of_bind hm
  obtain ⟨⟨ss2, ρ2⟩, e2, hm⟩ := R.of_bind hm
  cases hm
  refine h n σ H w ρ s ρ1 _ ok e1 fun v H1 w1 ok1 st1 s1 => ?_
  refine g (n + 1) σ H1 w1 ρ1 ss2 _ _ ok1 e2 fun vs H2 w2 ok2 st2 s2 => ?_
  exact k _ H2 w2 ok2 (st1.trans (st2.mono (Nat.le_succ n))) ⟨s1.step st2 (Nat.lt_succ_self n), s2⟩

/-! ### names, constants -/
def aVar (i : Nat) : AE := fun ρ => match ρ.get i with
  | some _ => .ok (.s i, ρ)
  | none => .bad
theorem sa_var {i : Nat} {x : Str} {pos : Pos} (hN : X.N[i]? = some x := by rfl) (hv : Vis X.env.scope x := by first | exact Or.inl rfl | exact Or.inr (Or.inl rfl) | exact Or.inr (Or.inr rfl))
    (hd : (x == ("__debug__" : Str)) = false := by decide) (hcd : (x == ("__classdict__" : Str)) = false := by decide) : SA X (.Name x pos) (aVar i) := by
  refine ⟨_, pe_var hN hv hd hcd, fun n σ H w ρ s ρ' Q ok hm k => ?_⟩
  unfold aVar at hm
  cases e : ρ.get i with
  | none => rw [e] at hm; cases hm
  | some c =>
    rw [e] at hm
    cases hm
    obtain ⟨v, h1, _⟩ := ok.slot i c e
    exact ⟨v, h1, k v H w ok Step.refl h1⟩
def Cell.fz (d : D) : Cell := ⟨d, 0⟩
def aC (d : D) : AE := fun ρ => .ok (.v (Cell.fz d), ρ)
theorem sa_const {v : V} {d : D} (p : PE X e (tC v)) (h : ∀ H w, Fz X.K H w d v) : SA X e (aC d) := ⟨_, p, fun n σ H w ρ s ρ' Q ok hm k => by
  cases hm
  exact k v H w ok Step.refl (.fz (h H w))⟩
theorem sa_int {i : Int} {j : Nat} {pos : Pos} : SA X (.Constant (.int i) j pos) (aC (.int i)) := sa_const pe_int fun _ _ => .int i
theorem sa_bl {i : Bool} {j : Nat} {pos : Pos} : SA X (.Constant (.bool i) j pos) (aC (.bl i)) := sa_const pe_bl fun _ _ => .bl i
theorem sa_non {j : Nat} {pos : Pos} : SA X (.Constant .none j pos) (aC .non) := sa_const pe_non fun _ _ => .non
theorem sa_str {i : Str} {j : Nat} {pos : Pos} : SA X (.Constant (.str i) j pos) (aC (.str i)) := sa_const pe_str fun _ _ => .str i
/-! ### operations on values -/
/-- f tells what the operation by values r makes -/
def CallS (X : Cx) (r : List V → Hp → VK → Prop) (f : List Cell → R Cell) : Prop :=
  ∀ (n : Nat) (H : Hp) (w : OM) (σ : L2.St) (ρ : Env) (cs : List Cell) (vs : List V) (c : Cell) (Q : VK), Ok X.K H w σ ρ → OwA X.K H w cs vs → f cs = .ok c →
    (∀ v H' w', Ok X.K H' w' σ ρ → Step n H w H' w' → Ow X.K H' w' (.tm n) c.k c.d v → Q v H') → r vs H Q
def r2L (r : R2) : List V → Hp → VK → Prop := fun vs H Q => match vs with
  | [x, y] => r x y H Q
  | _ => False
def r1L (r : V → Hp → VK → Prop) : List V → Hp → VK → Prop := fun vs H Q => match vs with
  | [x] => r x H Q
  | _ => False
def mPrim (f : List Cell → R Cell) (ms : List AE) : AE := fun ρ => do
  let (ss, ρ1) ← evs ms ρ
  match cells ρ1 ss with
  | some cs => do
    let c ← f cs
    R.ok (.v c, ρ1)
  | none => R.bad
theorem mPrim_ok {f : List Cell → R Cell} {ρ ρ' : Env} {s : Src} (h : mPrim f ms ρ = .ok (s, ρ')) : ∃ ss cs c, evs ms ρ = .ok (ss, ρ') ∧ cells ρ' ss = some cs ∧ f cs = .ok c ∧ s = .v c := by
  obtain ⟨⟨ss, ρ1⟩, e1, h⟩ := R.of_bind h
  dsimp only at h
  cases e2 : cells ρ1 ss with
  | none => rw [e2] at h; cases h
  | some cs =>
    rw [e2] at h
    obtain ⟨c, e3, h⟩ := R.of_bind h
    cases h
    exact ⟨ss, cs, c, e1, e2, e3, rfl⟩
/-- by an argument list -/
theorem sa_prim {f : List Cell → R Cell} {r : List V → Hp → VK → Prop} (hs : CallS X r f) (ha : SAs X es ms) (hp : ∀ t, PA X es t → PE X e (fun σ H Q => t σ H fun vs H1 => r vs H1 Q)) : SA X e (mPrim f ms) := by
  obtain ⟨t, p, h⟩ := ha.ex
  refine ⟨_, hp t p, fun n σ H w ρ s ρ' Q ok hm k => ?_⟩
  obtain ⟨ss, cs, c, e1, e2, e3, rfl⟩ := mPrim_ok hm
  refine h n σ H w ρ ss ρ' _ ok e1 fun vs H1 w1 ok1 st1 s1 => ?_
  exact hs n H1 w1 σ ρ' cs vs c Q ok1 (s1.cells ok1 e2) e3 fun v H2 w2 ok2 st2 q => k v H2 w2 ok2 (st1.trans st2) q
/-- by two expressions in a row -/
theorem sa_prim2 {f : List Cell → R Cell} {r : R2} (hs : CallS X (r2L r) f) (ha : SA X a ma) (hb : SA X b mb) (hp : ∀ t u, PE X a t → PE X b u → PE X e (tOp r t u)) : SA X e (mPrim f [ma, mb]) := by
  obtain ⟨t, p, h⟩ := ha.ex
  obtain ⟨u, q, g⟩ := hb.ex
  refine ⟨_, hp t u p q, fun n σ H w ρ s ρ' Q ok hm k => ?_⟩
  obtain ⟨ss, cs, c, e1, e2, e3, rfl⟩ := mPrim_ok hm
  obtain ⟨⟨s1, ρ1⟩, f1, e1⟩ := R.of_bind e1
  obtain ⟨⟨ss2, ρ2⟩, f2, e1⟩ := R.of_bind e1
  cases e1
  obtain ⟨⟨s2, ρ3⟩, f3, f2⟩ := R.of_bind f2
  cases f2
  refine h n σ H w ρ s1 ρ1 _ ok f1 fun v H1 w1 ok1 st1 q1 => ?_
  refine g (n + 1) σ H1 w1 ρ1 s2 ρ' _ ok1 f3 fun v2 H2 w2 ok2 st2 q2 => ?_
  refine hs n H2 w2 σ ρ' cs [v, v2] c Q ok2 (SrcsAt.cells (n := n) (ss := [s1, s2]) (vs := [v, v2]) ok2 ⟨q1.step st2 (Nat.lt_succ_self n), q2, trivial⟩ e2) e3 fun v3 H3 w3 ok3 st3 q3 => ?_
  exact k v3 H3 w3 ok3 ((st1.trans (st2.mono (Nat.le_succ n))).trans st3) q3
theorem sa_prim1 {f : List Cell → R Cell} {r : V → Hp → VK → Prop} (hs : CallS X (r1L r) f) (ha : SA X a ma) (hp : ∀ t, PE X a t → PE X e (fun σ H Q => t σ H fun x H1 => r x H1 Q)) : SA X e (mPrim f [ma]) := by
  obtain ⟨t, p, h⟩ := ha.ex
  refine ⟨_, hp t p, fun n σ H w ρ s ρ' Q ok hm k => ?_⟩
  obtain ⟨ss, cs, c, e1, e2, e3, rfl⟩ := mPrim_ok hm
  obtain ⟨⟨s1, ρ1⟩, f1, e1⟩ := R.of_bind e1
  cases e1
  refine h n σ H w ρ s1 ρ' _ ok f1 fun v H1 w1 ok1 st1 q1 => ?_
  refine hs n H1 w1 σ ρ' cs [v] c Q ok1 (SrcsAt.cells (n := n) (ss := [s1]) (vs := [v]) ok1 ⟨q1, trivial⟩ e2) e3 fun v3 H3 w3 ok3 st3 q3 => ?_
  exact k v3 H3 w3 ok3 (st1.trans st3) q3
theorem sa_bin {op : Operator} {f : List Cell → R Cell} {r : R2} (ho : OpR X (binaryOp op) r) (hs : CallS X (r2L r) f) (ha : SA X a ma) (hb : SA X b mb) : SA X (.BinOp a op b pos) (mPrim f [ma, mb]) :=
  sa_prim2 hs ha hb fun _ _ p q => pe_op ho p q
theorem sa_cmp {op : CmpOp} {f : List Cell → R Cell} {r : R2} (ho : OpR X (compareOp op) r) (hs : CallS X (r2L r) f) (hm : behindInMarks op b = false) (ha : SA X a ma) (hb : SA X b mb) : SA X (.Compare a [op] [b] pos) (mPrim f [ma, mb]) :=
  sa_prim2 hs ha hb fun _ _ p q => pe_cmpR ho p q hm
theorem sa_un {op : UnaryOp} {f : List Cell → R Cell} {r : V → Hp → VK → Prop} (ho : UnR X (unaryOp op) r) (hs : CallS X (r1L r) f) (ha : SA X a ma) : SA X (.UnaryOp op a pos) (mPrim f [ma]) :=
  sa_prim1 hs ha fun _ p => pe_un ho p
end

def orF (f g : List Cell → R Cell) : List Cell → R Cell := fun cs => match f cs with
  | .ok c => .ok c
  | _ => g cs
section
variable {X : Cx}
theorem CallS.or {r r' : List V → Hp → VK → Prop} {f g : List Cell → R Cell} (h : CallS X r f) (h' : CallS X r' g) : CallS X (fun vs H Q => r vs H Q ∨ r' vs H Q) (orF f g) := by
  intro n H w σ ρ cs vs c Q ok ow e k
  unfold orF at e
  cases e1 : f cs with
  | ok c' =>
    rw [e1] at e
    cases e
    exact .inl (h n H w σ ρ cs vs _ Q ok ow e1 k)
  | exc _ _ => rw [e1] at e; exact .inr (h' n H w σ ρ cs vs c Q ok ow e k)
  | bad => rw [e1] at e; exact .inr (h' n H w σ ρ cs vs c Q ok ow e k)
theorem CallS.of {r r' : List V → Hp → VK → Prop} {f : List Cell → R Cell} (h : CallS X r f) (i : ∀ vs H Q, r vs H Q → r' vs H Q) : CallS X r' f := by
  intro n H w σ ρ cs vs c Q ok ow e k
  exact i _ _ _ (h n H w σ ρ cs vs c Q ok ow e k)
/-- the value at a cell whose datum is a scalar -/
theorem ow_int {K : PySem.W.Frag} {H : Hp} {w : OM} {o : Own} {k : Nat} {i : Int} {v : V} (h : Ow K H w o k (.int i) v) : v = .int i := by
  cases h with
  | fz h => cases h; rfl
theorem ow_bl {K : PySem.W.Frag} {H : Hp} {w : OM} {o : Own} {k : Nat} {i : Bool} {v : V} (h : Ow K H w o k (.bl i) v) : v = .bl i := by
  cases h with
  | fz h => cases h; rfl
theorem ow_str {K : PySem.W.Frag} {H : Hp} {w : OM} {o : Own} {k : Nat} {i : Str} {v : V} (h : Ow K H w o k (.str i) v) : v = .str i := by
  cases h with
  | fz h => cases h; rfl
theorem ow_non {K : PySem.W.Frag} {H : Hp} {w : OM} {o : Own} {k : Nat} {v : V} (h : Ow K H w o k .non v) : v = .non := by
  cases h with
  | fz h => cases h; rfl
theorem ow_tup {K : PySem.W.Frag} {H : Hp} {w : OM} {o : Own} {k : Nat} {ds : List D} {v : V} (h : Ow K H w o k (.tup ds) v) : ∃ a vs, v = .ref a ∧ TupAt K H w a vs ∧ FzL K H w ds vs := by
  cases h with
  | fz h => cases h with
    | tup h t => exact ⟨_, _, rfl, h, t⟩

/-- a read of a datum, whoever owns it -/
theorem Ow1L.sqs {K : PySem.W.Frag} {H : Hp} {w : OM} {o : Own} : ∀ {ds : List D} {vs : List V}, Ow1L K H w o ds vs → ds.length = vs.length
  | _, _, .nil => rfl
  | _, _, .cons _ _ _ r => by rw [List.length_cons, List.length_cons, r.sqs]
theorem ow_lst {K : PySem.W.Frag} {H : Hp} {w : OM} {o : Own} {k : Nat} {ds : List D} {v : V} (h : Ow K H w o k (.lst ds) v) : ∃ a vs, v = .ref a ∧ H a = some (.lst vs) ∧ ds.length = vs.length ∧ (k ≤ 1 → FzL K H w ds vs) := by
  cases h with
  | fz h => cases h with
    | lst h n t => exact ⟨_, _, rfl, h, t.length, fun _ => t⟩
  | lst h n t => exact ⟨_, _, rfl, h, t.length, fun _ => t⟩
  | lst2 h n t nd => exact ⟨_, _, rfl, h, t.sqs, fun z => absurd z (by decide)⟩
theorem ow_scr {K : PySem.W.Frag} {H : Hp} {w : OM} {o : Own} {k : Nat} {ds : List D} {v : V} (h : Ow K H w o k (.scr ds) v) : ∃ a vs, v = .ref a ∧ SqL K H a vs ∧ FzL K H w ds vs := by
  cases h with
  | fz h => cases h with
    | scr h t => exact ⟨_, _, rfl, h.sq, t⟩

def fI2 (g : Int → Int → R D) : List Cell → R Cell
  | [⟨.int i, _⟩, ⟨.int j, _⟩] => do
    let d ← g i j
    R.ok (Cell.fz d)
  | _ => .bad
def isSc : D → V → Bool
  | .int i, .int j => decide (i = j)
  | .bl i, .bl j => decide (i = j)
  | .str i, .str j => decide (i = j)
  | .non, .non => true
  | _, _ => false
theorem isSc.fz {d : D} {v : V} (h : isSc d v = true) {K : PySem.W.Frag} {H : Hp} {w : OM} : Fz K H w d v := by
  unfold isSc at h
  split at h
  · cases of_decide_eq_true h; exact .int _
  · cases of_decide_eq_true h; exact .bl _
  · cases of_decide_eq_true h; exact .str _
  · exact .non
  · cases h
theorem s_I2 {C : Int → Int → Prop} {gv : Int → Int → V} {g : Int → Int → R D} (h : ∀ i j d, g i j = .ok d → C i j ∧ isSc d (gv i j) = true) : CallS X (r2L (rI C gv)) (fI2 g) := by
  intro n H w σ ρ cs vs c Q ok ow e k
  unfold fI2 at e
  split at e
  · obtain ⟨d, e1, e⟩ := R.of_bind e
    cases e
    cases ow with
    | cons n1 h1 t =>
      cases t with
      | cons n2 h2 t =>
        cases t
        cases ow_int h1
        cases ow_int h2
        obtain ⟨hc, hd⟩ := h _ _ _ e1
        exact ⟨_, _, rfl, rfl, hc, k _ H w ok Step.refl (.fz (isSc.fz hd))⟩
  · cases e
theorem s_I20 {gv : Int → Int → V} {g : Int → Int → D} (h : ∀ i j, isSc (g i j) (gv i j) = true) : CallS X (r2L (rI0 gv)) (fI2 fun i j => .ok (g i j)) :=
  (s_I2 (C := fun _ _ => True) (gv := gv) (g := fun i j => .ok (g i j)) fun i j d e => by cases e; exact ⟨trivial, h i j⟩).of fun vs H Q q => by
    match vs, q with
    | [x, y], ⟨i, j, e1, e2, _, q⟩ => exact ⟨i, j, e1, e2, q⟩
end
end Z

/-! Z: the operations. -/
namespace Z
open PySem PySem.Spec PyProof.Rows L2

/-! ### data as the library tells it -/
mutual
def D.py : D → PyData
  | .non => .none
  | .bl b => .bool b
  | .int i => .int i
  | .str x => .str x
  | .tup l => .tuple (D.pyL l)
  | .lst l => .list (D.pyL l)
  | .scr l => .list (D.pyL l)
  | .dct _ _ => .dict []
def D.pyL : List D → List PyData
  | [] => []
  | d :: r => d.py :: D.pyL r
end
/-- may be compared: no dict within, at most n deep -/
def D.okd : Nat → D → Bool
  | _, .non => true
  | _, .bl _ => true
  | _, .int _ => true
  | _, .str x => strOk x
  | 0, _ => false
  | n + 1, .tup l => l.all (D.okd n)
  | n + 1, .lst l => l.all (D.okd n)
  | n + 1, .scr l => l.all (D.okd n)
  | _ + 1, .dct _ _ => false
where strOk (x : Str) : Bool := x.cps.all (· < 0x110000)
def D.eqv (d e : D) : Bool := PyData.eqv d.py e.py
theorem canLayAll0_of : ∀ {l : List D}, (∀ d ∈ l, d.py.canLay0 = true) → PyData.canLayAll0 (D.pyL l) = true
  | [], _ => by simp [D.pyL, PyData.canLayAll0]
  | d :: r, h => by
    simp only [D.pyL, PyData.canLayAll0, Bool.and_eq_true]
    exact ⟨h d (by simp), canLayAll0_of fun e he => h e (by simp [he])⟩
theorem depthAll_of {n : Nat} : ∀ {l : List D}, (∀ d ∈ l, d.py.depth ≤ n) → PyData.depthAll (D.pyL l) ≤ n
  | [], _ => by simp [D.pyL, PyData.depthAll]
  | d :: r, h => by
    simp only [D.pyL, PyData.depthAll]
    have h1 := h d (by simp)
    have h2 := depthAll_of (n := n) (l := r) fun e he => h e (by simp [he])
    omega
theorem D.okd_py : ∀ {n : Nat} {d : D}, d.okd n = true → d.py.canLay0 = true ∧ d.py.depth ≤ n
  | n, .non, _ => by cases n <;> simp [D.py, PyData.canLay0, PyData.depth]
  | n, .bl _, _ => by cases n <;> simp [D.py, PyData.canLay0, PyData.depth]
  | n, .int _, _ => by cases n <;> simp [D.py, PyData.canLay0, PyData.depth]
  | n, .str x, h => by
    have h' : D.okd.strOk x = true := by cases n <;> exact h
    cases n <;> simp [D.py, PyData.canLay0, PyData.depth] <;> exact h'
  | 0, .tup _, h => by simp [D.okd] at h
  | 0, .lst _, h => by simp [D.okd] at h
  | 0, .scr _, h => by simp [D.okd] at h
  | 0, .dct _ _, h => by simp [D.okd] at h
  | n + 1, .dct _ _, h => by simp [D.okd] at h
  | n + 1, .tup l, h => by
    have h' : ∀ d ∈ l, d.okd n = true := by simpa [D.okd] using h
    have a := canLayAll0_of (l := l) fun d hd => (D.okd_py (h' d hd)).1
    have b := depthAll_of (n := n) (l := l) fun d hd => (D.okd_py (h' d hd)).2
    simp only [D.py, PyData.canLay0, PyData.depth]
    exact ⟨a, by omega⟩
  | n + 1, .lst l, h => by
    have h' : ∀ d ∈ l, d.okd n = true := by simpa [D.okd] using h
    have a := canLayAll0_of (l := l) fun d hd => (D.okd_py (h' d hd)).1
    have b := depthAll_of (n := n) (l := l) fun d hd => (D.okd_py (h' d hd)).2
    simp only [D.py, PyData.canLay0, PyData.depth]
    exact ⟨a, by omega⟩
  | n + 1, .scr l, h => by
    have h' : ∀ d ∈ l, d.okd n = true := by simpa [D.okd] using h
    have a := canLayAll0_of (l := l) fun d hd => (D.okd_py (h' d hd)).1
    have b := depthAll_of (n := n) (l := l) fun d hd => (D.okd_py (h' d hd)).2
    simp only [D.py, PyData.canLay0, PyData.depth]
    exact ⟨a, by omega⟩
theorem D.okd_shaped {d : D} (h : d.okd 60 = true) : SeqAt.shaped d.py = true := by
  obtain ⟨a, b⟩ := D.okd_py h
  unfold SeqAt.shaped
  rw [Bool.and_eq_true]
  exact ⟨a, decide_eq_true (by omega)⟩
section
variable {K : PySem.W.Frag} {H : Hp} {w : OM} {o : Own}
mutual
theorem Fz.dp : ∀ {n : Nat} {d : D} {v : V}, Fz K H w d v → d.okd n = true → Dp K H v d.py
  | _, _, _, .non, _ => .non
  | _, _, _, .bl b, _ => .bl b
  | _, _, _, .int i, _ => .int i
  | _, _, _, .str x, _ => .str x
  | 0, _, _, .tup h t, e => by simp [D.okd] at e
  | 0, _, _, .lst h n t, e => by simp [D.okd] at e
  | 0, _, _, .scr h t, e => by simp [D.okd] at e
  | 0, _, _, .dct h n e t, q => by simp [D.okd] at q
  | 0, _, _, .dcu h n x e q r t, z => by simp [D.okd] at z
  | m + 1, _, _, .tup h t, e => .tup h.sq (FzL.dp t (by simpa [D.okd] using e))
  | m + 1, _, _, .lst h n t, e => .lst (.inl (.inl h)) (FzL.dp t (by simpa [D.okd] using e))
  | m + 1, _, _, .scr h t, e => .lst h.sq (FzL.dp t (by simpa [D.okd] using e))
  | m + 1, _, _, .dct h n e t, q => by simp [D.okd] at q
  | m + 1, _, _, .dcu h n x e q r t, z => by simp [D.okd] at z
theorem FzL.dp : ∀ {n : Nat} {ds : List D} {vs : List V}, FzL K H w ds vs → (∀ d ∈ ds, d.okd n = true) → DpAll K H vs (D.pyL ds)
  | _, _, _, .nil, _ => .nil
  | n, _, _, .cons h t, e => .cons (Fz.dp h (e _ (by simp))) (FzL.dp t fun d hd => e d (by simp [hd]))
end
theorem Ow1L.dp : ∀ {n : Nat} {ds : List D} {vs : List V}, Ow1L K H w o ds vs → (∀ d ∈ ds, d.okd n = true) → DpAll K H vs (D.pyL ds)
  | _, _, _, .nil, _ => .nil
  | 0, _, _, .cons h m t r, e => by have := e _ (List.mem_cons_self ..); simp [D.okd] at this
  | n + 1, _, _, .cons h m t r, e => .cons (.lst (.inl (.inl h)) (FzL.dp t (by have := e _ (List.mem_cons_self ..); simpa [D.okd] using this))) (Ow1L.dp r fun d hd => e d (by simp [hd]))
theorem Ow.dp {n k : Nat} {d : D} {v : V} (h : Ow K H w o k d v) (e : d.okd n = true) : Dp K H v d.py := by
  cases h with
  | fz h => exact h.dp e
  | lst h m t =>
    cases n with
    | zero => simp [D.okd] at e
    | succ n => exact .lst (.inl (.inl h)) (t.dp (n := n) (by simpa [D.okd] using e))
  | dct h m q t => cases n <;> simp [D.okd] at e
  | dcu h m x q r y t => cases n <;> simp [D.okd] at e
  | lst2 h m t nd =>
    cases n with
    | zero => simp [D.okd] at e
    | succ n => exact .lst (.inl (.inl h)) (t.dp (n := n) (by simpa [D.okd] using e))
end

theorem OwA.one {K : PySem.W.Frag} {H : Hp} {w : OM} {c : Cell} {vs : List V} (h : OwA K H w [c] vs) : ∃ v o, vs = [v] ∧ Ow K H w o c.k c.d v := by
  cases h with
  | cons n h t => cases t; exact ⟨_, _, rfl, h⟩
theorem OwA.two {K : PySem.W.Frag} {H : Hp} {w : OM} {c e : Cell} {vs : List V} (h : OwA K H w [c, e] vs) : ∃ v u o q, vs = [v, u] ∧ Ow K H w o c.k c.d v ∧ Ow K H w q e.k e.d u := by
  cases h with
  | cons n h t => cases t with
    | cons n2 h2 t => cases t; exact ⟨_, _, _, _, rfl, h, h2⟩

section
variable {X : Cx}
/-- one scalar out of any cells: the rule's wants are shown, the value is told -/
theorem s_scalar {r : List V → Hp → VK → Prop} {f : List Cell → R Cell}
    (h : ∀ (K : PySem.W.Frag) (H : Hp) (w : OM) (cs : List Cell) (vs : List V) (c : Cell) (Q : VK), K = X.K → OwA K H w cs vs → f cs = .ok c → ∃ d v, c = Cell.fz d ∧ isSc d v = true ∧ (Q v H → r vs H Q)) : CallS X r f := by
  intro n H w σ ρ cs vs c Q ok ow e k
  obtain ⟨d, v, rfl, hs, q⟩ := h X.K H w cs vs c Q rfl ow e
  exact q (k v H w ok Step.refl (.fz (isSc.fz hs)))

/-! #### arithmetic -/
def cmul (i j : Int) : Bool := decide (-(2 ^ 64) < i ∧ i < 2 ^ 64) || decide (-(2 ^ 64) < j ∧ j < 2 ^ 64)
def fSub : List Cell → R Cell := fI2 fun i j => .ok (.int (i - j))
theorem s_sub : CallS X (r2L (rI0 fun i j => .int (i - j))) fSub := s_I20 fun i j => by simp [isSc]
def fDiv : List Cell → R Cell := fI2 fun i j => if 0 < j ∧ j < 4611686018427387904 then .ok (.int (i / j)) else .bad
theorem s_div : CallS X (r2L (rI CDivW fun i j => .int (i / j))) fDiv := s_I2 fun i j d e => by
  split at e
  · rename_i h
    cases e
    exact ⟨wide_div h.1 (b := 62) (by have := h.2; omega) (by decide) (by decide), by simp [isSc]⟩
  · cases e
def fMod : List Cell → R Cell := fI2 fun i j => if 0 < j then .ok (.int (i % j)) else .bad
theorem s_mod : CallS X (r2L (rI (fun _ j => 0 < j) fun i j => .int (i % j))) fMod := s_I2 fun i j d e => by
  split at e
  · cases e; exact ⟨by assumption, by simp [isSc]⟩
  · cases e
def cpow (i j : Int) : Bool := decide (0 ≤ j) && decide (j ≤ 1000000) && decide (i.natAbs < 2 ^ 64)
theorem cpow_ok {i j : Int} (h : cpow i j = true) : CPow i j := by
  unfold cpow at h
  simp only [Bool.and_eq_true, decide_eq_true_eq] at h
  exact ⟨h.1.1, h.1.2, h.2⟩
def fPow : List Cell → R Cell := fI2 fun i j => if cpow i j then .ok (.int (i ^ j.toNat)) else .bad
theorem s_pow : CallS X (r2L (rI CPow fun i j => .int (i ^ j.toNat))) fPow := s_I2 fun i j d e => by
  split at e
  · cases e; exact ⟨cpow_ok (by assumption), by simp [isSc]⟩
  · cases e
def fShl : List Cell → R Cell := fI2 fun i j => if cpow i j then .ok (.int (i * 2 ^ j.toNat)) else .bad
theorem s_shl : CallS X (r2L (rI CPow fun i j => .int (i * 2 ^ j.toNat))) fShl := s_I2 fun i j d e => by
  split at e
  · cases e; exact ⟨cpow_ok (by assumption), by simp [isSc]⟩
  · cases e
def fBand : List Cell → R Cell := fI2 fun i j => .ok (.int (Builtin.bitAnd i j))
/-- + of ints, texts, tuples, lists -/
def fAdd : List Cell → R Cell
  | [⟨.int i, _⟩, ⟨.int j, _⟩] => .ok (Cell.fz (.int (i + j)))
  | [⟨.str x, _⟩, ⟨.str y, _⟩] => if x.length + y.length ≤ 16777216 then .ok (Cell.fz (.str (x ++ y))) else .bad
  | [⟨.tup l, _⟩, ⟨.tup m, _⟩] => if l.length + m.length ≤ 16777216 then .ok (Cell.fz (.tup (l ++ m))) else .bad
  | [⟨.lst l, k⟩, ⟨.lst m, j⟩] => if k ≤ 1 ∧ j ≤ 1 ∧ l.length + m.length ≤ 16777216 then .ok ⟨.lst (l ++ m), 1⟩ else .bad
  | _ => .bad
def rAddAll (K : PySem.W.Frag) : R2 := fun x y H Q => (rI0 (fun i j => .int (i + j)) x y H Q) ∨ (∃ i j, x = .str i ∧ y = .str j ∧ i.length + j.length ≤ sizeLine ∧ Q (.str (i ++ j)) H) ∨ rCatF K x y H Q ∨ rCat x y H Q
theorem op_addAll : OpR X (binaryOp .Add) (rAddAll X.K) := op_add.or (op_add_str.or (op_catF.or op_cat))
theorem s_add : CallS X (r2L (rAddAll X.K)) fAdd := by
  intro n H w σ ρ cs vs c Q ok ow e k
  unfold fAdd at e
  split at e
  · cases e
    obtain ⟨v, u, o, q, rfl, h1, h2⟩ := ow.two
    cases ow_int h1
    cases ow_int h2
    exact .inl ⟨_, _, rfl, rfl, k _ H w ok Step.refl (.fz (.int _))⟩
  · split at e
    · cases e
      obtain ⟨v, u, o, q, rfl, h1, h2⟩ := ow.two
      cases ow_str h1
      cases ow_str h2
      exact .inr (.inl ⟨_, _, rfl, rfl, by rw [sizeLine_eq]; assumption, k _ H w ok Step.refl (.fz (.str _))⟩)
    · cases e
  · split at e
    · cases e
      obtain ⟨v, u, o, q, rfl, h1, h2⟩ := ow.two
      obtain ⟨a, xs, rfl, ta, fa⟩ := ow_tup h1
      obtain ⟨b, ys, rfl, tb, fb⟩ := ow_tup h2
      have la := fa.length
      have lb := fb.length
      refine .inr (.inr (.inl ⟨a, b, xs, ys, rfl, rfl, ta.sq, tb.sq, by rw [sizeLine_eq, ← la, ← lb]; assumption, fun e0 => ?_, fun _ e0 => ?_, fun n1 n2 p ob hp hd => ?_⟩))
      · subst e0
        cases fa
        exact k _ H w ok Step.refl (.fz (.tup tb fb))
      · subst e0
        cases fb
        refine k _ H w ok Step.refl (.fz ?_)
        show Fz X.K H w (.tup (_ ++ [])) _
        rw [List.append_nil]
        exact .tup ta fa
      · refine k _ _ (w.put p .no) (ok.new hp .no) (Step.new hp) (.fz (.tup (.inl ⟨⟨ob, upd_same, hd⟩, OM.put_same⟩) ?_))
        exact ((fa.append fb).step (Kp.new hp .no))
    · cases e
  · split at e
    · rename_i hc
      cases e
      obtain ⟨v, u, o, q, rfl, h1, h2⟩ := ow.two
      obtain ⟨a, xs, rfl, ta, la, fa⟩ := ow_lst h1
      obtain ⟨b, ys, rfl, tb, lb, fb⟩ := ow_lst h2
      refine .inr (.inr (.inr ⟨a, b, xs, ys, rfl, rfl, ta, tb, by rw [sizeLine_eq, ← la, ← lb]; exact hc.2.2, fun p hp => ?_⟩))
      refine k _ _ (w.put p (.tm n)) (ok.new hp _) (Step.new hp) (.lst upd_same OM.put_same ?_)
      exact (((fa hc.1).append (fb hc.2.1)).step (Kp.new hp .no))
    · cases e
  · cases e
/-- * of ints, of a list and an int -/
def fMul : List Cell → R Cell
  | [⟨.int i, _⟩, ⟨.int j, _⟩] => if cmul i j then .ok (Cell.fz (.int (i * j))) else .bad
  | [⟨.lst l, k⟩, ⟨.int j, _⟩] => if k ≤ 1 ∧ -(2 ^ 63) ≤ j ∧ j < 2 ^ 63 ∧ l.length * j.toNat ≤ 16777216 then .ok ⟨.lst (List.replicate j.toNat l).flatten, 1⟩ else .bad
  | _ => .bad
theorem cmul_ok {i j : Int} (h : cmul i j = true) : CMul i j := by
  unfold cmul at h
  simpa [CMul] using h
def rMulAll : R2 := fun x y H Q => (rI CMul (fun i j => .int (i * j)) x y H Q) ∨ rRep x y H Q
theorem op_mulAll : OpR X (binaryOp .Mult) rMulAll := op_mul.or op_rep
theorem s_mul : CallS X (r2L rMulAll) fMul := by
  intro n H w σ ρ cs vs c Q ok ow e k
  unfold fMul at e
  split at e
  · split at e
    · cases e
      obtain ⟨v, u, o, q, rfl, h1, h2⟩ := ow.two
      cases ow_int h1
      cases ow_int h2
      exact .inl ⟨_, _, rfl, rfl, cmul_ok (by assumption), k _ H w ok Step.refl (.fz (.int _))⟩
    · cases e
  · split at e
    · rename_i hc
      cases e
      obtain ⟨v, u, o, q, rfl, h1, h2⟩ := ow.two
      obtain ⟨a, xs, rfl, ta, la, fa⟩ := ow_lst h1
      cases ow_int h2
      refine .inr ⟨a, _, xs, rfl, rfl, ta, hc.2.1, hc.2.2.1, by rw [sizeLine_eq, ← la]; exact hc.2.2.2, fun p hp => ?_⟩
      exact k _ _ (w.put p (.tm n)) (ok.new hp _) (Step.new hp) (.lst upd_same OM.put_same (((fa hc.1).rep _).step (Kp.new hp .no)))
    · cases e
  · cases e
def fNeg : List Cell → R Cell
  | [⟨.int i, _⟩] => .ok (Cell.fz (.int (-i)))
  | _ => .bad
theorem s_neg : CallS X (r1L (rU fun i => .int (-i))) fNeg := s_scalar fun K H w cs vs c Q _ ow e => by
  unfold fNeg at e
  split at e
  · cases e
    obtain ⟨v, o, rfl, h1⟩ := ow.one
    cases ow_int h1
    exact ⟨_, .int (-_), rfl, by simp [isSc], fun q => ⟨_, rfl, q⟩⟩
  · cases e

/-! #### comparisons -/
def fCmp (p : Int → Int → Bool) : List Cell → R Cell := fI2 fun i j => .ok (.bl (p i j))
theorem s_cmp {p : Int → Int → Bool} : CallS X (r2L (rI0 fun i j => .bl (p i j))) (fCmp p) := s_I20 fun i j => by simp [isSc]
abbrev fLt := fCmp fun i j => decide (i < j)
abbrev fLe := fCmp fun i j => decide (i ≤ j)
abbrev fGt := fCmp fun i j => decide (j < i)
abbrev fGe := fCmp fun i j => decide (j ≤ i)
def fEq : List Cell → R Cell
  | [c, e] => if c.d.okd 60 && e.d.okd 60 then .ok (Cell.fz (.bl (c.d.eqv e.d))) else .bad
  | _ => .bad
def fNe : List Cell → R Cell
  | [c, e] => if c.d.okd 60 && e.d.okd 60 then .ok (Cell.fz (.bl (!c.d.eqv e.d))) else .bad
  | _ => .bad
theorem s_eq : CallS X (r2L (rEqD X.K)) fEq := s_scalar fun K H w cs vs c Q hK ow e => by
  subst hK
  unfold fEq at e
  split at e
  · split at e
    · rename_i c1 c2 hc
      cases e
      rw [Bool.and_eq_true] at hc
      obtain ⟨v, u, o, q, rfl, h1, h2⟩ := ow.two
      exact ⟨_, .bl (c1.d.eqv c2.d), rfl, by simp [isSc], fun q => ⟨_, _, h1.dp hc.1, h2.dp hc.2, D.okd_shaped hc.1, D.okd_shaped hc.2, q⟩⟩
    · cases e
  · cases e
theorem s_ne : CallS X (r2L (rNeD X.K)) fNe := s_scalar fun K H w cs vs c Q hK ow e => by
  subst hK
  unfold fNe at e
  split at e
  · split at e
    · rename_i c1 c2 hc
      cases e
      rw [Bool.and_eq_true] at hc
      obtain ⟨v, u, o, q, rfl, h1, h2⟩ := ow.two
      exact ⟨_, .bl (!c1.d.eqv c2.d), rfl, by simp [isSc], fun q => ⟨_, _, h1.dp hc.1, h2.dp hc.2, D.okd_shaped hc.1, D.okd_shaped hc.2, q⟩⟩
    · cases e
  · cases e
def isNon : D → Bool
  | .non => true
  | _ => false
theorem isNon_ow {K : PySem.W.Frag} {H : Hp} {w : OM} {o : Own} {k : Nat} {d : D} {v : V} (h : Ow K H w o k d v) : decide (v = .non) = isNon d := by
  cases h with
  | fz h => cases h <;> simp [isNon]
  | _ => simp [isNon]
def fIsN : List Cell → R Cell
  | [c, ⟨.non, _⟩] => .ok (Cell.fz (.bl (isNon c.d)))
  | _ => .bad
def fNotN : List Cell → R Cell
  | [c, ⟨.non, _⟩] => .ok (Cell.fz (.bl (!isNon c.d)))
  | _ => .bad
theorem s_notN : CallS X (r2L fun x y H Q => y = .non ∧ Q (.bl (!decide (x = .non))) H) fNotN := s_scalar fun K H w cs vs c Q hK ow e => by
  unfold fNotN at e
  split at e
  · rename_i c1 _
    cases e
    obtain ⟨v, u, o, q, rfl, h1, h2⟩ := ow.two
    cases ow_non h2
    exact ⟨_, .bl (!isNon c1.d), rfl, by simp [isSc], fun q => ⟨rfl, by rw [isNon_ow h1]; exact q⟩⟩
  · cases e
end
end Z

/-! Z3b: dicts, by the keys' values. -/
namespace Z
open PySem PySem.Spec PyProof.Rows L2

/-! ### keys -/
mutual
theorem D.nk_inj : ∀ {n m : Nat} {a b : D}, a.kk n = true → b.kk m = true → a.nk = b.nk → a = b
  | _, _, .int i, .int j, _, _, e => by simp only [D.nk, NestedKey.num.injEq] at e; rw [e]
  | _, _, .non, .non, _, _, _ => rfl
  | n + 1, m + 1, .tup l, .tup k, h1, h2, e => by
    simp only [D.nk, NestedKey.tup.injEq] at e
    simp only [D.kk, List.all_eq_true] at h1 h2
    rw [D.nkL_inj (n := n) (m := m) h1 h2 e]
  | _, _, .int i, .non, _, _, e => by simp [D.nk] at e
  | _, _, .non, .int i, _, _, e => by simp [D.nk] at e
  | _, _, .int i, .tup _, _, _, e => by simp [D.nk] at e
  | _, _, .tup _, .int i, _, _, e => by simp [D.nk] at e
  | _, _, .non, .tup _, _, _, e => by simp [D.nk] at e
  | _, _, .tup _, .non, _, _, e => by simp [D.nk] at e
  | 0, _, .tup _, .tup _, h, _, _ => by simp [D.kk] at h
  | _, 0, .tup _, .tup _, _, h, _ => by simp [D.kk] at h
  | 0, _, .bl _, _, h, _, _ => by simp [D.kk] at h
  | _ + 1, _, .bl _, _, h, _, _ => by simp [D.kk] at h
  | 0, _, .str _, _, h, _, _ => by simp [D.kk] at h
  | _ + 1, _, .str _, _, h, _, _ => by simp [D.kk] at h
  | 0, _, .lst _, _, h, _, _ => by simp [D.kk] at h
  | _ + 1, _, .lst _, _, h, _, _ => by simp [D.kk] at h
  | 0, _, .scr _, _, h, _, _ => by simp [D.kk] at h
  | _ + 1, _, .scr _, _, h, _, _ => by simp [D.kk] at h
  | 0, _, .dct _ _, _, h, _, _ => by simp [D.kk] at h
  | _ + 1, _, .dct _ _, _, h, _, _ => by simp [D.kk] at h
  | _, 0, _, .bl _, _, h, _ => by simp [D.kk] at h
  | _, _ + 1, _, .bl _, _, h, _ => by simp [D.kk] at h
  | _, 0, _, .str _, _, h, _ => by simp [D.kk] at h
  | _, _ + 1, _, .str _, _, h, _ => by simp [D.kk] at h
  | _, 0, _, .lst _, _, h, _ => by simp [D.kk] at h
  | _, _ + 1, _, .lst _, _, h, _ => by simp [D.kk] at h
  | _, 0, _, .scr _, _, h, _ => by simp [D.kk] at h
  | _, _ + 1, _, .scr _, _, h, _ => by simp [D.kk] at h
  | _, 0, _, .dct _ _, _, h, _ => by simp [D.kk] at h
  | _, _ + 1, _, .dct _ _, _, h, _ => by simp [D.kk] at h
theorem D.nkL_inj : ∀ {n m : Nat} {a b : List D}, (∀ x ∈ a, x.kk n = true) → (∀ x ∈ b, x.kk m = true) → D.nkL a = D.nkL b → a = b
  | _, _, [], [], _, _, _ => rfl
  | _, _, [], _ :: _, _, _, e => by simp [D.nkL] at e
  | _, _, _ :: _, [], _, _, e => by simp [D.nkL] at e
  | n, m, x :: a, y :: b, h1, h2, e => by
    simp only [D.nkL, List.cons.injEq] at e
    rw [D.nk_inj (h1 x (List.mem_cons_self ..)) (h2 y (List.mem_cons_self ..)) e.1, D.nkL_inj (fun z hz => h1 z (List.mem_cons_of_mem _ hz)) (fun z hz => h2 z (List.mem_cons_of_mem _ hz)) e.2]
end
mutual
theorem D.nk_hash (W W' : World) : ∀ d : D, d.nk.hash W = d.nk.hash W'
  | .int i => by simp [D.nk, NestedKey.hash]
  | .tup l => by simp only [D.nk, NestedKey.hash]; rw [D.nkL_hash W W' l]
  | .non => by simp [D.nk, NestedKey.hash]
  | .bl _ => by simp [D.nk, NestedKey.hash]
  | .str _ => by simp [D.nk, NestedKey.hash]
  | .lst _ => by simp [D.nk, NestedKey.hash]
  | .scr _ => by simp [D.nk, NestedKey.hash]
  | .dct _ _ => by simp [D.nk, NestedKey.hash]
theorem D.nkL_hash (W W' : World) : ∀ l : List D, NestedKey.hashes W (D.nkL l) = NestedKey.hashes W' (D.nkL l)
  | [] => by simp [D.nkL, NestedKey.hashes]
  | d :: r => by simp only [D.nkL, NestedKey.hashes]; rw [D.nk_hash W W' d, D.nkL_hash W W' r]
end
mutual
theorem D.nk_depth : ∀ {n : Nat} {d : D}, d.kk n = true → d.nk.depth ≤ n
  | _, .int i, _ => by simp [D.nk, NestedKey.depth]
  | _, .non, _ => by simp [D.nk, NestedKey.depth]
  | n + 1, .tup l, h => by
    simp only [D.kk, List.all_eq_true] at h
    simp only [D.nk, NestedKey.depth]
    have := D.nkL_depth h
    omega
  | 0, .tup _, h => by simp [D.kk] at h
  | _, .bl _, _ => by simp [D.nk, NestedKey.depth]
  | _, .str _, _ => by simp [D.nk, NestedKey.depth]
  | _, .lst _, _ => by simp [D.nk, NestedKey.depth]
  | _, .scr _, _ => by simp [D.nk, NestedKey.depth]
  | _, .dct _ _, _ => by simp [D.nk, NestedKey.depth]
theorem D.nkL_depth : ∀ {n : Nat} {l : List D}, (∀ x ∈ l, x.kk n = true) → NestedKey.depthAll (D.nkL l) ≤ n
  | _, [], _ => by simp [D.nkL, NestedKey.depthAll]
  | n, d :: r, h => by
    have h1 := D.nk_depth (h d (List.mem_cons_self ..))
    have h2 := D.nkL_depth (l := r) (fun z hz => h z (List.mem_cons_of_mem _ hz))
    simp only [D.nkL, NestedKey.depthAll]
    omega
end
theorem D.tk_kk {d : D} (h : d.tk = true) : d.kk 8 = true := by
  cases d <;> simp [D.tk] at h
  simpa [D.kk] using h
theorem D.tk_inj {a b : D} (h : a.tk = true) (h' : b.tk = true) (e : a.nk = b.nk) : a = b := D.nk_inj (D.tk_kk h) (D.tk_kk h') e

section
variable {X : Cx} {H : Hp} {w : OM} {o : Own}
/-- the value v is the key d -/
def NkV (X : Cx) (H : Hp) (d : D) (v : V) : Prop := ∀ (pins : List (Addr × Obj)) (σ : L2.St) (s : Shared) (u : Value), Inv X pins σ H s → RelV v u → NestedIs s.heap d.nk u
mutual
theorem Fz.nkv : ∀ {n : Nat} {d : D} {v : V}, Fz X.K H w d v → d.kk n = true → NkV X H d v
  | _, _, _, .int i, _ => fun pins σ s u I r => by obtain ⟨t, rfl⟩ := (show ∃ t, u = Value.int i t from r); simp only [D.nk]; exact .int i t
  | _, _, _, .non, _ => fun pins σ s u I r => by cases (show u = Value.none from r); simp only [D.nk]; exact .none
  | n + 1, _, _, .tup h t, e => fun pins σ s u I r => by
    simp only [D.kk, List.all_eq_true] at e
    cases (show u = Value.ref _ from r)
    obtain ⟨its, r', ⟨ob, g, hc, m, hd⟩, _⟩ := I.tuple h.sq
    simp only [D.nk]
    exact .tup g hc hd (by simpa using FzL.nkv t e pins σ s its I r')
  | 0, _, _, .tup h t, e => by simp [D.kk] at e
  | 0, _, _, .bl _, e => by simp [D.kk] at e
  | _ + 1, _, _, .bl _, e => by simp [D.kk] at e
  | 0, _, _, .str _, e => by simp [D.kk] at e
  | _ + 1, _, _, .str _, e => by simp [D.kk] at e
  | 0, _, _, .lst .., e => by simp [D.kk] at e
  | _ + 1, _, _, .lst .., e => by simp [D.kk] at e
  | 0, _, _, .scr .., e => by simp [D.kk] at e
  | _ + 1, _, _, .scr .., e => by simp [D.kk] at e
  | 0, _, _, .dct .., e => by simp [D.kk] at e
  | _ + 1, _, _, .dct .., e => by simp [D.kk] at e
  | 0, _, _, .dcu .., e => by simp [D.kk] at e
  | _ + 1, _, _, .dcu .., e => by simp [D.kk] at e
theorem FzL.nkv : ∀ {n : Nat} {ds : List D} {vs : List V}, FzL X.K H w ds vs → (∀ d ∈ ds, d.kk n = true) → ∀ (pins : List (Addr × Obj)) (σ : L2.St) (s : Shared) (us : List Value), Inv X pins σ H s → Vals vs us → NestedAll s.heap (D.nkL ds) us
  | _, _, _, .nil, _ => fun pins σ s us I r => by cases r; simp only [D.nkL]; exact .nil
  | n, _, _, .cons h t, e => fun pins σ s us I r => by
    cases r with
    | cons r1 r2 =>
      simp only [D.nkL]
      exact .cons (Fz.nkv h (e _ (List.mem_cons_self ..)) pins σ s _ I r1) (FzL.nkv t (fun d hd => e d (List.mem_cons_of_mem _ hd)) pins σ s _ I r2)
end
/-! ### a dict with tuples for keys -/
def uK (xs : List (D × Addr × Value)) : List (NestedKey × Addr × Value) := xs.map fun x => (x.1.nk, x.2)
def uGet (xs : List (D × Addr × Value)) (k : D) : Option (Addr × Value) := (xs.find? fun x => decide (x.1 = k)).map (·.2)
def uPut (xs : List (D × Addr × Value)) (k : D) (b : Addr) (u : Value) : List (D × Addr × Value) :=
  if (uGet xs k).isSome then xs.map (fun x => if x.1 = k then (x.1, x.2.1, u) else x) else xs ++ [(k, b, u)]
theorem atKey_uK {k : D} (hk : k.tk = true) : ∀ {xs : List (D × Addr × Value)}, (∀ x ∈ xs, x.1.tk = true) → atKey (uK xs) k.nk = uGet xs k
  | [], _ => rfl
  | x :: xs, h => by
    have ih := atKey_uK hk (xs := xs) fun y hy => h y (List.mem_cons_of_mem _ hy)
    unfold uK atKey uGet at ih ⊢
    rw [List.map_cons, List.find?_cons, List.find?_cons]
    by_cases e : x.1 = k
    · simp [e]
    · have e' : ¬ x.1.nk = k.nk := fun z => e (D.tk_inj (h x (List.mem_cons_self ..)) hk z)
      simp only [e, e', decide_false]
      exact ih
theorem uPut_uK {k : D} {b : Addr} {u : Value} (hk : k.tk = true) {xs : List (D × Addr × Value)} (h : ∀ x ∈ xs, x.1.tk = true) : storedH (uK xs) k.nk b u = uK (uPut xs k b u) := by
  unfold storedH uPut
  rw [atKey_uK hk h]
  split
  · unfold uK
    rw [List.map_map, List.map_map]
    refine List.map_congr_left fun x hx => ?_
    simp only [Function.comp]
    unfold putAt
    by_cases e : x.1 = k
    · simp [e]
    · have e' : ¬ x.1.nk = k.nk := fun z => e (D.tk_inj (h x hx) hk z)
      simp [e, e']
  · unfold uK; simp
theorem uPut_tk {k : D} {b : Addr} {u : Value} (hk : k.tk = true) {xs : List (D × Addr × Value)} (h : ∀ x ∈ xs, x.1.tk = true) : ∀ x ∈ uPut xs k b u, x.1.tk = true := by
  unfold uPut
  split
  · intro x hx
    obtain ⟨y, hy, rfl⟩ := List.mem_map.mp hx
    split <;> exact h y hy
  · intro x hx
    rcases List.mem_append.mp hx with hx | hx
    · exact h x hx
    · rw [List.mem_singleton] at hx; subst hx; exact hk
theorem uPut_ne {k : D} {b : Addr} {u : Value} {xs : List (D × Addr × Value)} : uPut xs k b u ≠ [] := by
  unfold uPut
  split
  · rename_i h
    cases xs with
    | nil => simp [uGet] at h
    | cons _ _ => simp
  · simp
theorem uPut_len {k : D} {b : Addr} {u : Value} {xs : List (D × Addr × Value)} : (uPut xs k b u).length ≤ xs.length + 1 := by
  unfold uPut
  split <;> simp
theorem wK_nil {prog : Program} {w : World} {h : Heap} {a : Addr} (x : h.DictOf (mixKind prog w) a []) : h.DictOfH (nestedKind prog w) a (uK []) := by
  obtain ⟨o, es, ep, h1, h2, h3, h4, h5, h6⟩ := x
  have e : es.toList = [] := by
    generalize es.toList = l at h5
    cases h5
    rfl
  exact ⟨o, es, ep, h1, h2, h3, e, fun x hx => by simp [uK] at hx, List.nodup_nil⟩
def UAt (X : Cx) (H : Hp) (a : Addr) (xs : List (D × Addr × Value)) : Prop := ∃ ob, H a = some (.ext fun h => h.get? a = some ob) ∧ ExD ob a xs ∧ ∀ x ∈ xs, NkV X H x.1 (.ref x.2.1)
theorem UAt.dict {pins : List (Addr × Obj)} {σ : L2.St} {s : Shared} {a : Addr} {xs : List (D × Addr × Value)} (I : Inv X pins σ H s) (x : UAt X H a xs) :
    (a == sysModules) = false ∧ xs.length ≤ sizeLine ∧ (∀ x ∈ xs, x.1.tk = true) ∧ s.heap.DictOfH (nestedKind X.prog X.w) a (uK xs) := by
  obtain ⟨ob, hH, ⟨e1, e2, e3, e4, e5, e6, es, ep, e7, e8⟩, hk⟩ := x
  have hg : s.heap.get? a = some ob := (I.hok a _ hH).1
  refine ⟨e1, e3, e5, ob, es, ep, hg, e2, e7, ?_, fun x hx => ?_, ?_⟩
  · rw [e8 X.w]
    unfold uK
    rw [List.map_map]
    rfl
  · obtain ⟨y, hy, rfl⟩ := List.mem_map.mp hx
    exact ⟨hk y hy pins σ s _ I rfl, D.nk_depth (D.tk_kk (e5 y hy))⟩
  · unfold uK
    rw [List.map_map]
    exact e6
/-- a dict whose keys are tuples, or one without entries -/
def UAt0 (X : Cx) (H : Hp) (a : Addr) (xs : List (D × Addr × Value)) : Prop := UAt X H a xs ∨ (xs = [] ∧ Rd H a (.dK []))
theorem UAt0.dict {pins : List (Addr × Obj)} {σ : L2.St} {s : Shared} {a : Addr} {xs : List (D × Addr × Value)} (I : Inv X pins σ H s) (x : UAt0 X H a xs) :
    (a == sysModules) = false ∧ xs.length ≤ sizeLine ∧ (∀ x ∈ xs, x.1.tk = true) ∧ s.heap.DictOfH (nestedKind X.prog X.w) a (uK xs) := by
  rcases x with x | ⟨rfl, x⟩
  · exact x.dict I
  · obtain ⟨h1, h2, vs, h3, h4⟩ := dk_rd I.hok x
    cases h3
    exact ⟨h2, Nat.zero_le _, fun x hx => (nomatch hx), wK_nil h4⟩
section
variable {pins : List (Addr × Obj)} {σ : L2.St} {s : Shared} {a b : Addr} {xs : List (D × Addr × Value)} {k : D} {A : Around} {E : Value → Shared → Prop}
theorem room_u (hu : A.units + 65 < cLine) : (nestedKind X.prog X.w).room A.in1 := by
  show A.in1.units + 8 < cLine
  have : A.in1.units = A.units + 1 := rfl
  omega
theorem u_getItem {p : Addr × Value} {v : V} {Q : Value → Shared → Prop} (hu : A.units + 65 < cLine) (I : Inv X pins σ H s) (g : UAt0 X H a xs) (hk : k.tk = true) (kv : NkV X H k (.ref b)) (hp : uGet xs k = some p) (rv : RelV v p.2)
    (h : ∀ w' s', Inv X pins σ H s' → RelV v w' → Q w' s') : wpAny (model X.prog X.w) A (getItem (.ref a) (.ref b)) Q E s := by
  obtain ⟨h1, h2, h3, h4⟩ := g.dict I
  refine wpAny_getItem_heap (room_u hu) ⟨kv pins σ s _ I rfl, D.nk_depth (D.tk_kk hk)⟩ h4 (p := p) (by rw [atKey_uK hk h3]; exact hp) ?_
  exact h _ _ (I.tok _) rv
theorem u_in {Q : Value → Shared → Prop} (hu : A.units + 65 < cLine) (I : Inv X pins σ H s) (g : UAt0 X H a xs) (hk : k.tk = true) (kv : NkV X H k (.ref b)) (h : ∀ s', Inv X pins σ H s' → Q (.bool (uGet xs k).isSome) s') :
    wpAny (model X.prog X.w) A (compareOp .In (.ref b) (.ref a)) Q E s := by
  obtain ⟨h1, h2, h3, h4⟩ := g.dict I
  refine wpAny_in_heap (room_u hu) ⟨kv pins σ s _ I rfl, D.nk_depth (D.tk_kk hk)⟩ h1 h4 ?_
  rw [atKey_uK hk h3]
  exact h _ (I.tok _)
theorem u_notIn {Q : Value → Shared → Prop} (hu : A.units + 65 < cLine) (I : Inv X pins σ H s) (g : UAt0 X H a xs) (hk : k.tk = true) (kv : NkV X H k (.ref b)) (h : ∀ s', Inv X pins σ H s' → Q (.bool (!(uGet xs k).isSome)) s') :
    wpAny (model X.prog X.w) A (compareOp .NotIn (.ref b) (.ref a)) Q E s := by
  obtain ⟨h1, h2, h3, h4⟩ := g.dict I
  refine wpAny_notIn_heap (room_u hu) ⟨kv pins σ s _ I rfl, D.nk_depth (D.tk_kk hk)⟩ h1 h4 ?_
  rw [atKey_uK hk h3]
  exact h _ (I.tok _)
theorem u_setItem {r : Value} {Q : Unit → Shared → Prop} (hu : A.units + 65 < cLine) (I : Inv X pins σ H s) (mu : Mut (H a)) (g : UAt0 X H a xs) (hk : k.tk = true) (kv : NkV X H k (.ref b)) (hl : xs.length < sizeLine)
    (h : ∀ s' ob, ExD ob a (uPut xs k b r) → Inv X pins σ (upd H a (.ext fun h => h.get? a = some ob)) s' → Q () s') : wpAny (model X.prog X.w) A (setItem (.ref a) (.ref b) r) Q E s := by
  obtain ⟨h1, h2, h3, h4⟩ := g.dict I
  have hz : (uK xs).length ≤ sizeLine := by unfold uK; rw [List.length_map]; exact h2
  refine wpAny_setItem_heap (hsz := hz) (room_u hu) ⟨kv pins σ s _ I rfl, D.nk_depth (D.tk_kk hk)⟩ h4 fun h' dd' hs => ?_
  rw [uPut_uK hk h3] at dd'
  obtain ⟨q, es, ep, hq, d2, d3, d4, _, d5⟩ := dd'
  have hlen := uPut_len (xs := xs) (k := k) (b := b) (u := r)
  refine h _ q ⟨h1, d2, by omega, uPut_ne, uPut_tk hk h3, ?_, es, ep, d3, fun W => ?_⟩ (d_write I mu hs ⟨q, hq⟩ ⟨hq, ⟨q, hq⟩, fun _ _ e k => k _ e⟩)
  · unfold uK at d5
    rw [List.map_map] at d5
    exact d5
  · rw [d4]
    unfold uK
    rw [List.map_map]
    refine List.map_congr_left fun x _ => ?_
    rw [← D.nk_hash X.w W x.1]
    rfl
end
/-! ### entries, as values -/
def dGet : List D → List D → D → Option D
  | k :: ks, d :: ds, q => if k = q then some d else dGet ks ds q
  | _, _, _ => none
def dPutK (ks : List D) (q : D) : List D := if q ∈ ks then ks else ks ++ [q]
def dPutV {α : Type} (ks : List D) (ds : List α) (q : D) (v : α) : List α := if q ∈ ks then List.zipWith (fun k d => if k = q then v else d) ks ds else ds ++ [v]
theorem kD_inj {a b : Key} (e : kD a = kD b) : a = b := by
  cases a <;> cases b <;> simp [kD] at e <;> rw [e]
section
variable {K : PySem.W.Frag} {H : Hp} {w : OM}
theorem dGet_fz {q : Key} : ∀ {ds : List D} {kvs : List (Key × V)}, FzL K H w ds (kvs.map (·.2)) → (∀ d, dGet (kvs.map fun p => kD p.1) ds (kD q) = some d → ∃ v, valV kvs q = some v ∧ Fz K H w d v)
  | [], [], _ => fun d h => by simp [dGet] at h
  | d :: ds, p :: kvs, .cons h t => by
    have ih := dGet_fz (q := q) t
    by_cases e : p.1 = q
    · rw [List.map_cons, dGet, if_pos (by rw [e]), valV_pos e]
      exact fun d' z => by cases z; exact ⟨_, rfl, h⟩
    · rw [List.map_cons, dGet, if_neg (fun z => e (kD_inj z)), valV_neg e]
      exact ih
theorem dGet_u {k : D} : ∀ {ds : List D} {vs : List V} {xs : List (D × Addr × Value)}, FzL K H w ds vs → Vals vs (xs.map (·.2.2)) → ∀ d, dGet (xs.map (·.1)) ds k = some d → ∃ p v, uGet xs k = some p ∧ RelV v p.2 ∧ Fz K H w d v
  | _, _, [], _, _ => fun d h => by simp [dGet] at h
  | _, _, x :: xs, .cons h t, .cons r r2 => fun d e => by
    rw [List.map_cons, dGet] at e
    by_cases z : x.1 = k
    · rw [if_pos z] at e
      cases e
      exact ⟨x.2, _, by simp [uGet, z], r, h⟩
    · rw [if_neg z] at e
      obtain ⟨p, v, h1, h2, h3⟩ := dGet_u t r2 d e
      exact ⟨p, v, by simpa [uGet, List.find?_cons, z] using h1, h2, h3⟩
theorem uGet_mem {k : D} : ∀ {xs : List (D × Addr × Value)}, (uGet xs k).isSome = decide (k ∈ xs.map (·.1))
  | [] => by simp [uGet]
  | x :: xs => by
    have ih := uGet_mem (k := k) (xs := xs)
    by_cases z : x.1 = k
    · simp [uGet, z]
    · have e : uGet (x :: xs) k = uGet xs k := by simp [uGet, List.find?_cons, z]
      rw [e, ih]
      have : ¬ k = x.1 := fun q => z q.symm
      simp [this]
theorem valV_mem {q : Key} : ∀ {kvs : List (Key × V)}, (valV kvs q).isSome = decide (kD q ∈ kvs.map fun p => kD p.1)
  | [] => by simp [valV_nil]
  | p :: kvs => by
    have ih := valV_mem (q := q) (kvs := kvs)
    by_cases z : p.1 = q
    · rw [valV_pos z]; simp [z]
    · rw [valV_neg z, ih]
      have : ¬ kD q = kD p.1 := fun e => z (kD_inj e).symm
      simp [this]
theorem FzL.zipPut {d : D} {v : V} {q : D} (r : Fz K H w d v) : ∀ {ks ds : List D} {vs : List V}, FzL K H w ds vs → FzL K H w (List.zipWith (fun k x => if k = q then d else x) ks ds) (List.zipWith (fun k x => if k = q then v else x) ks vs)
  | [], _, _, _ => .nil
  | _ :: _, _, _, .nil => .nil
  | k :: ks, _, _, .cons h t => by
    rw [List.zipWith_cons_cons, List.zipWith_cons_cons]
    by_cases e : k = q
    · rw [if_pos e, if_pos e]; exact .cons r (FzL.zipPut r t)
    · rw [if_neg e, if_neg e]; exact .cons h (FzL.zipPut r t)
theorem Vals.zipPut {v : V} {u : Value} {q : D} (r : RelV v u) : ∀ {ks : List D} {vs : List V} {us : List Value}, Vals vs us → Vals (List.zipWith (fun k x => if k = q then v else x) ks vs) (List.zipWith (fun k x => if k = q then u else x) ks us)
  | [], _, _, _ => .nil
  | _ :: _, _, _, .nil => .nil
  | k :: ks, _, _, .cons h t => by
    rw [List.zipWith_cons_cons, List.zipWith_cons_cons]
    by_cases e : k = q
    · rw [if_pos e, if_pos e]; exact .cons r (Vals.zipPut r t)
    · rw [if_neg e, if_neg e]; exact .cons h (Vals.zipPut r t)
theorem FzL.putV {d : D} {v : V} {q : D} {ks ds : List D} {vs : List V} (h : FzL K H w ds vs) (r : Fz K H w d v) : FzL K H w (dPutV ks ds q d) (dPutV ks vs q v) := by
  unfold dPutV
  split
  · exact h.zipPut r
  · exact h.append (.cons r .nil)
theorem zip_map {α β γ δ : Type} (f : α → β → γ) (g : δ → α) (h : δ → β) (l : List δ) : List.zipWith f (l.map g) (l.map h) = l.map fun x => f (g x) (h x) := by
  induction l with
  | nil => rfl
  | cons a r ih => simp [ih]
theorem uPut_keys {k : D} {b : Addr} {u : Value} {xs : List (D × Addr × Value)} : (uPut xs k b u).map (·.1) = dPutK (xs.map (·.1)) k := by
  unfold uPut dPutK
  rw [uGet_mem]
  simp only [decide_eq_true_eq]
  split
  · rw [List.map_map]
    refine List.map_congr_left fun x _ => ?_
    simp only [Function.comp]
    split <;> rfl
  · simp
theorem uPut_fk {k : D} {b : Addr} {u : Value} {xs : List (D × Addr × Value)} (h : FzL K H w (xs.map (·.1)) (xs.map fun x => .ref x.2.1)) (hk : Fz K H w k (.ref b)) : FzL K H w (dPutK (xs.map (·.1)) k) ((uPut xs k b u).map fun x => .ref x.2.1) := by
  unfold uPut dPutK
  rw [uGet_mem]
  simp only [decide_eq_true_eq]
  split
  · rw [List.map_map]
    have e : xs.map ((fun x : D × Addr × Value => V.ref x.2.1) ∘ fun x => if x.1 = k then (x.1, x.2.1, u) else x) = xs.map fun x => .ref x.2.1 := List.map_congr_left fun x _ => by
      simp only [Function.comp]
      split <;> rfl
    rw [e]
    exact h
  · rw [List.map_append]
    exact h.append (.cons hk .nil)
theorem uPut_vals {k : D} {b : Addr} {v : V} {u : Value} {xs : List (D × Addr × Value)} {vs : List V} (h : Vals vs (xs.map (·.2.2))) (r : RelV v u) : Vals (dPutV (xs.map (·.1)) vs k v) ((uPut xs k b u).map (·.2.2)) := by
  have e : (uPut xs k b u).map (·.2.2) = dPutV (xs.map (·.1)) (xs.map (·.2.2)) k u := by
    unfold uPut dPutV
    rw [uGet_mem]
    simp only [decide_eq_true_eq]
    split
    · rw [List.map_map, zip_map]
      refine List.map_congr_left fun x _ => ?_
      simp only [Function.comp]
      split <;> rfl
    · simp
  rw [e]
  unfold dPutV
  split
  · exact Vals.zipPut r h
  · exact Vals.append h (.cons r .nil)
theorem putK_keys {q : Key} {v : V} {kvs : List (Key × V)} : ((putK kvs q v).map fun p => kD p.1) = dPutK (kvs.map fun p => kD p.1) (kD q) := by
  unfold putK dPutK
  rw [valV_any, valV_mem]
  simp only [decide_eq_true_eq]
  split
  · rw [List.map_map]
    refine List.map_congr_left fun x _ => ?_
    simp only [Function.comp]
    split <;> rfl
  · simp
theorem putK_vals {q : Key} {v : V} {kvs : List (Key × V)} : (putK kvs q v).map (·.2) = dPutV (kvs.map fun p => kD p.1) (kvs.map (·.2)) (kD q) v := by
  unfold putK dPutV
  rw [valV_any, valV_mem]
  simp only [decide_eq_true_eq]
  split
  · rw [List.map_map, zip_map]
    refine List.map_congr_left fun x _ => ?_
    simp only [Function.comp]
    by_cases e : x.1 = q
    · simp [e]
    · have : ¬ kD x.1 = kD q := fun z => e (kD_inj z)
      simp [e, this]
  · simp
def D.sk : D → Bool
  | .int _ => true
  | .str _ => true
  | _ => false
def keyD : D → Option Key
  | .int i => some (.inl i)
  | .str x => some (.inr x)
  | _ => none
theorem keyD_eq {d : D} {q : Key} (e : keyD d = some q) : d = kD q := by
  cases d <;> simp [keyD] at e <;> subst e <;> rfl
theorem keyD_sk {d : D} (h : d.sk = true) : ∃ q, keyD d = some q := by
  cases d <;> simp [D.sk] at h
  · exact ⟨_, rfl⟩
  · exact ⟨_, rfl⟩
theorem sk_tk {d : D} (h : d.sk = true) : d.tk = false := by
  cases d <;> simp [D.sk] at h <;> rfl
theorem kD_sk {q : Key} : (kD q).sk = true := by cases q <;> rfl
theorem ow_dct {o : Own} {k : Nat} {ks ds : List D} {v : V} (h : Ow K H w o k (.dct ks ds) v) : ∃ a, v = .ref a ∧ ((∃ kvs, Rd H a (.dK kvs) ∧ (kvs.map fun p => kD p.1) = ks ∧ FzL K H w ds (kvs.map (·.2))) ∨
    ∃ ob xs vs, H a = some (.ext fun h => h.get? a = some ob) ∧ ExD ob a xs ∧ xs.map (·.1) = ks ∧ FzL K H w ks (xs.map fun x => .ref x.2.1) ∧ Vals vs (xs.map (·.2.2)) ∧ FzL K H w ds vs) := by
  cases h with
  | fz h => cases h with
    | dct h n e t => exact ⟨_, rfl, .inl ⟨_, h, e, t⟩⟩
    | dcu h n x e q r t => exact ⟨_, rfl, .inr ⟨_, _, _, h, x, e, q, r, t⟩⟩
  | dct h n e t => exact ⟨_, rfl, .inl ⟨_, .inl h, e, t⟩⟩
  | dcu h n x e q r t => exact ⟨_, rfl, .inr ⟨_, _, _, h, x, e, q, r, t⟩⟩
theorem exd_tk {ob : Obj} {a : Addr} {xs : List (D × Addr × Value)} {ks : List D} (h : ExD ob a xs) (e : xs.map (·.1) = ks) : ks ≠ [] ∧ ∀ k ∈ ks, k.tk = true := by
  obtain ⟨_, _, _, e4, e5, _⟩ := h
  subst e
  refine ⟨fun z => e4 (List.map_eq_nil_iff.mp z), fun k hk => ?_⟩
  obtain ⟨x, hx, rfl⟩ := List.mem_map.mp hk
  exact e5 x hx
theorem exd_not {ob : Obj} {a : Addr} {xs : List (D × Addr × Value)} {ks : List D} (h : ExD ob a xs) (e : xs.map (·.1) = ks) : ks.all D.sk = false := by
  obtain ⟨h1, h2⟩ := exd_tk h e
  cases ks with
  | nil => exact absurd rfl h1
  | cons k r =>
    have := h2 k (List.mem_cons_self ..)
    cases q : k.sk with
    | false => simp [q]
    | true => rw [sk_tk q] at this; cases this
theorem ow_dctS {o : Own} {k : Nat} {ks ds : List D} {v : V} (hs : ks.all D.sk = true) (h : Ow K H w o k (.dct ks ds) v) : ∃ a kvs, v = .ref a ∧ Rd H a (.dK kvs) ∧ (kvs.map fun p => kD p.1) = ks ∧ FzL K H w ds (kvs.map (·.2)) := by
  obtain ⟨a, e, ⟨kvs, h1, h2, h3⟩ | ⟨ob, xs, vs, h1, h2, h3, _⟩⟩ := ow_dct h
  · exact ⟨a, kvs, e, h1, h2, h3⟩
  · rw [exd_not h2 h3] at hs; cases hs
end
section
variable {X : Cx} {H : Hp} {w : OM} {o o' : Own} {k k' : Nat} {ks ds : List D} {c : D} {v y : V}
theorem uat_of {a : Addr} {ob : Obj} {xs : List (D × Addr × Value)} (h1 : H a = some (.ext fun h => h.get? a = some ob)) (h2 : ExD ob a xs) (h3 : xs.map (·.1) = ks) (h4 : FzL X.K H w ks (xs.map fun x => .ref x.2.1)) : UAt X H a xs := by
  refine ⟨ob, h1, h2, fun x hx => ?_⟩
  have htk := h2.2.2.2.2.1
  have key : ∀ {xs : List (D × Addr × Value)} {ks : List D}, xs.map (·.1) = ks → FzL X.K H w ks (xs.map fun x => .ref x.2.1) → ∀ x ∈ xs, Fz X.K H w x.1 (.ref x.2.1) := by
    intro xs
    induction xs with
    | nil => intro ks _ _ x hx; cases hx
    | cons z r ih =>
      intro ks e f x hx
      subst e
      cases f with
      | cons f1 f2 =>
        rcases List.mem_cons.mp hx with rfl | hx
        · exact f1
        · exact ih rfl f2 x hx
  exact (key h3 h4 x hx).nkv (D.tk_kk (htk x hx))
/-- a dict whose keys are tuples, and a tuple -/
theorem ow_dctU (hs : ks.all D.tk = true) (h : Ow X.K H w o k (.dct ks ds) v) : ∃ a xs vs, v = .ref a ∧ UAt0 X H a xs ∧ xs.map (·.1) = ks ∧ Vals vs (xs.map (·.2.2)) ∧ FzL X.K H w ds vs := by
  obtain ⟨a, e, ⟨kvs, h1, h2, h3⟩ | ⟨ob, xs, vs, h1, h2, h3, h4, h5, h6⟩⟩ := ow_dct h
  · have : kvs = [] := by
      cases kvs with
      | nil => rfl
      | cons p r =>
        subst h2
        have : (kD p.1).tk = true := by simpa using (List.all_eq_true.mp hs) (kD p.1) (by simp)
        rw [sk_tk kD_sk] at this
        cases this
    subst this
    subst h2
    cases h3
    exact ⟨a, [], [], e, .inr ⟨rfl, h1⟩, rfl, .nil, .nil⟩
  · exact ⟨a, xs, vs, e, .inl (uat_of h1 h2 h3 h4), h3, h5, h6⟩
theorem ow_tk (hk : c.tk = true) (h : Ow X.K H w o k c y) : ∃ b, y = .ref b ∧ NkV X H c (.ref b) ∧ Fz X.K H w c y := by
  cases c <;> simp [D.tk] at hk
  cases h with
  | fz h => cases h with
    | tup h1 h2 => exact ⟨_, rfl, (Fz.tup h1 h2).nkv (n := 8) (by simpa [D.kk] using hk), .tup h1 h2⟩
end
end
end Z

/-! Z: in, calls of built-ins, subscripts, displays. -/
namespace Z
open PySem PySem.Spec PyProof.Rows L2
theorem D.pyL_map : ∀ l : List D, D.pyL l = l.map D.py
  | [] => rfl
  | d :: r => by rw [D.pyL, D.pyL_map r, List.map_cons]
theorem any_py (d : D) (l : List D) : ((D.pyL l).any fun z => PyData.eqv z d.py) = l.any fun z => z.eqv d := by
  rw [D.pyL_map, List.any_map]
  rfl
section
variable {X : Cx}
def rInT (K : PySem.W.Frag) : R2 := fun x y H Q => ∃ d ds, Dp K H x d ∧ Dp K H y (.tuple ds) ∧ SeqAt.shaped d = true ∧ SeqAt.shaped (.tuple ds) = true ∧ Q (.bl (ds.any fun z => PyData.eqv z d)) H
def rNotInT (K : PySem.W.Frag) : R2 := fun x y H Q => ∃ d ds, Dp K H x d ∧ Dp K H y (.tuple ds) ∧ SeqAt.shaped d = true ∧ SeqAt.shaped (.tuple ds) = true ∧ Q (.bl (!ds.any fun z => PyData.eqv z d)) H
theorem op_inT (hu : X.A.units + 65 < cLine) : OpR X (compareOp .In) (rInT X.K) := by
  intro pins s σ H x y v u Q I rx ry h
  obtain ⟨d, ds, hd, he, sd, se, q⟩ := h
  obtain ⟨as, r1⟩ := Dp.reads I d x v hd rx
  obtain ⟨bs, r2⟩ := Dp.reads I (.tuple ds) y u he ry
  exact SeqAt.in_tuple_reads r2 r1 (SeqAt.canLay_of_shaped se) (SeqAt.canLay_of_shaped sd) (room_in_shaped sd hu) ⟨.bl _, H, I, rfl, q⟩
theorem op_notInT (hu : X.A.units + 65 < cLine) : OpR X (compareOp .NotIn) (rNotInT X.K) := by
  intro pins s σ H x y v u Q I rx ry h
  obtain ⟨d, ds, hd, he, sd, se, q⟩ := h
  obtain ⟨as, r1⟩ := Dp.reads I d x v hd rx
  obtain ⟨bs, r2⟩ := Dp.reads I (.tuple ds) y u he ry
  exact SeqAt.notIn_tuple_reads r2 r1 (SeqAt.canLay_of_shaped se) (SeqAt.canLay_of_shaped sd) (room_in_shaped sd hu) ⟨.bl _, H, I, rfl, q⟩
def sign? (x : Str) : Option Nat := match x.cps.toList with
  | [c] => some c
  | _ => none
theorem sign?_eq {x : Str} {c : Nat} (h : sign? x = some c) : x = ⟨#[c]⟩ := by
  obtain ⟨a⟩ := x
  unfold sign? at h
  have h' : (match a.toList with | [c] => some c | _ => none) = some c := h
  split at h'
  · rename_i e
    cases h'
    have : a = #[c] := by rw [← Array.toArray_toList (xs := a), e]
    rw [this]
  · cases h'
/-- x in y -/
def inB (x y : D) : R Bool := match y with
  | .tup l => if x.okd 60 && (D.tup l).okd 60 then .ok (l.any fun z => z.eqv x) else .bad
  | .lst l => if x.okd 60 && (D.lst l).okd 60 then .ok (l.any fun z => z.eqv x) else .bad
  | .str z => match x with
    | .str c => match sign? c with
      | some n => .ok (decide (n ∈ z.cps.toList))
      | none => .bad
    | _ => .bad
  | .dct ks _ => if (x.sk && ks.all D.sk) || (x.tk && ks.all D.tk) then .ok (decide (x ∈ ks)) else .bad
  | _ => .bad
def fIn (neg : Bool) : List Cell → R Cell
  | [c, e] => do
    let b ← inB c.d e.d
    R.ok (Cell.fz (.bl (neg ^^ b)))
  | _ => .bad
/-- is the key y in the dict x -/
def DIn (X : Cx) (H : Hp) (y x : V) (b : Bool) : Prop := (∃ a kvs q, x = .ref a ∧ Rd H a (.dK kvs) ∧ y = kV q ∧ b = (valV kvs q).isSome) ∨ ∃ a b' xs k, x = .ref a ∧ y = .ref b' ∧ UAt0 X H a xs ∧ k.tk = true ∧ NkV X H k (.ref b') ∧ b = (uGet xs k).isSome
def rInU (X : Cx) : R2 := fun y x H Q => ∃ b, DIn X H y x b ∧ Q (.bl b) H
def rNotInU (X : Cx) : R2 := fun y x H Q => ∃ b, DIn X H y x b ∧ Q (.bl (!b)) H
theorem op_inU (hu : X.A.units + 65 < cLine) : OpR X (compareOp .In) (rInU X) := by
  intro pins s σ H y x u v Q I ry rx h
  obtain ⟨b, ⟨a, kvs, q, rfl, hr, rfl, rfl⟩ | ⟨a, b', xs, k, rfl, rfl, hr, hk, kv, rfl⟩, hq⟩ := h
  · cases (show v = Value.ref a from rx)
    exact d_in (by omega) I (.inl ⟨kvs, q, hr, rfl, rfl⟩) ry fun s' I' => ⟨.bl _, H, I', rfl, hq⟩
  · cases (show v = Value.ref a from rx)
    cases (show u = Value.ref b' from ry)
    exact u_in hu I hr hk kv fun s' I' => ⟨.bl _, H, I', rfl, hq⟩
theorem op_notInU (hu : X.A.units + 65 < cLine) : OpR X (compareOp .NotIn) (rNotInU X) := by
  intro pins s σ H y x u v Q I ry rx h
  obtain ⟨b, ⟨a, kvs, q, rfl, hr, rfl, rfl⟩ | ⟨a, b', xs, k, rfl, rfl, hr, hk, kv, rfl⟩, hq⟩ := h
  · cases (show v = Value.ref a from rx)
    exact d_notIn (by omega) I (.inl ⟨kvs, q, hr, rfl, rfl⟩) ry fun s' I' => ⟨.bl _, H, I', rfl, hq⟩
  · cases (show v = Value.ref a from rx)
    cases (show u = Value.ref b' from ry)
    exact u_notIn hu I hr hk kv fun s' I' => ⟨.bl _, H, I', rfl, hq⟩
def rInAll (X : Cx) : R2 := fun x y H Q => rInT X.K x y H Q ∨ rInD X.K x y H Q ∨ (∃ (c : Nat) (z : Str), x = .str ⟨#[c]⟩ ∧ y = .str z ∧ Q (.bl (decide (c ∈ z.cps.toList))) H) ∨ rInU X x y H Q
def rNotInAll (X : Cx) : R2 := fun x y H Q => rNotInT X.K x y H Q ∨ rNotInD X.K x y H Q ∨ (∃ (c : Nat) (z : Str), x = .str ⟨#[c]⟩ ∧ y = .str z ∧ Q (.bl (!decide (c ∈ z.cps.toList))) H) ∨ rNotInU X x y H Q
theorem op_inAll (hu : X.A.units + 65 < cLine) : OpR X (compareOp .In) (rInAll X) := (op_inT hu).or ((op_inD hu).or (op_in_sign.or (op_inU hu)))
theorem op_notInAll (hu : X.A.units + 65 < cLine) : OpR X (compareOp .NotIn) (rNotInAll X) := (op_notInT hu).or ((op_notInD hu).or (op_notIn_sign.or (op_notInU hu)))
theorem keyD_ow {K : PySem.W.Frag} {H : Hp} {w : OM} {o : Own} {k : Nat} {d : D} {v : V} {q : Key} (e : keyD d = some q) (h : Ow K H w o k d v) : v = kV q := by
  cases d with
  | int i => cases e; exact ow_int h
  | str x => cases e; exact ow_str h
  | _ => cases e
theorem inB_ok {H : Hp} {w : OM} {c e : Cell} {x y : V} {o o' : Own} {b : Bool} (h1 : Ow X.K H w o c.k c.d x) (h2 : Ow X.K H w o' e.k e.d y) (h : inB c.d e.d = .ok b) :
    (∃ d ds, Dp X.K H x d ∧ Dp X.K H y (.tuple ds) ∧ SeqAt.shaped d = true ∧ SeqAt.shaped (.tuple ds) = true ∧ (ds.any fun z => PyData.eqv z d) = b) ∨
    (∃ d ds, Dp X.K H x d ∧ Dp X.K H y (.list ds) ∧ SeqAt.shaped d = true ∧ SeqAt.shaped (.list ds) = true ∧ (ds.any fun z => PyData.eqv z d) = b) ∨
    (∃ (c : Nat) (z : Str), x = .str ⟨#[c]⟩ ∧ y = .str z ∧ decide (c ∈ z.cps.toList) = b) ∨ DIn X H x y b := by
  obtain ⟨d1, k1⟩ := c
  obtain ⟨d2, k2⟩ := e
  simp only at h h1 h2
  unfold inB at h
  split at h
  · split at h
    · rename_i l hc
      cases h
      rw [Bool.and_eq_true] at hc
      exact .inl ⟨_, _, h1.dp hc.1, by have := h2.dp hc.2; rw [D.py] at this; exact this, D.okd_shaped hc.1, by have := D.okd_shaped hc.2; rw [D.py] at this; exact this, any_py _ _⟩
    · cases h
  · split at h
    · rename_i l hc
      cases h
      rw [Bool.and_eq_true] at hc
      exact .inr (.inl ⟨_, _, h1.dp hc.1, by have := h2.dp hc.2; rw [D.py] at this; exact this, D.okd_shaped hc.1, by have := D.okd_shaped hc.2; rw [D.py] at this; exact this, any_py _ _⟩)
    · cases h
  · split at h
    · split at h
      · rename_i hs
        cases h
        cases ow_str h1
        cases ow_str h2
        rw [sign?_eq hs]
        exact .inr (.inr (.inl ⟨_, _, rfl, rfl, rfl⟩))
      · cases h
    · cases h
  · split at h
    · rename_i ks ds hc
      cases h
      rw [Bool.or_eq_true, Bool.and_eq_true, Bool.and_eq_true] at hc
      refine .inr (.inr (.inr ?_))
      rcases hc with ⟨hs, hk⟩ | ⟨hs, hk⟩
      · obtain ⟨a, kvs, rfl, hr, e, _⟩ := ow_dctS hk h2
        obtain ⟨q, hq⟩ := keyD_sk hs
        refine .inl ⟨a, kvs, q, rfl, hr, keyD_ow hq h1, ?_⟩
        rw [valV_mem, e, keyD_eq hq]
      · obtain ⟨a, xs, vs, rfl, hu, e, _, _⟩ := ow_dctU hk h2
        obtain ⟨b', rfl, kv, _⟩ := ow_tk hs h1
        refine .inr ⟨a, b', xs, _, rfl, rfl, hu, hs, kv, ?_⟩
        rw [uGet_mem, e]
    · cases h
  · cases h
theorem s_in : CallS X (r2L (rInAll X)) (fIn false) := s_scalar fun K H w cs vs c Q hK ow e => by
  subst hK
  unfold fIn at e
  split at e
  · obtain ⟨b, e1, e⟩ := R.of_bind e
    cases e
    obtain ⟨v, u, o, q, rfl, h1, h2⟩ := ow.two
    refine ⟨_, .bl b, rfl, by simp [isSc], fun q => ?_⟩
    rcases inB_ok h1 h2 e1 with ⟨d, ds, a1, a2, a3, a4, rfl⟩ | ⟨d, ds, a1, a2, a3, a4, rfl⟩ | ⟨c, z, rfl, rfl, rfl⟩ | hd
    · exact .inl ⟨d, ds, a1, a2, a3, a4, q⟩
    · exact .inr (.inl ⟨d, ds, a1, a2, a3, a4, q⟩)
    · exact .inr (.inr (.inl ⟨c, z, rfl, rfl, q⟩))
    · exact .inr (.inr (.inr ⟨b, hd, q⟩))
  · cases e
theorem s_notIn : CallS X (r2L (rNotInAll X)) (fIn true) := s_scalar fun K H w cs vs c Q hK ow e => by
  subst hK
  unfold fIn at e
  split at e
  · obtain ⟨b, e1, e⟩ := R.of_bind e
    cases e
    obtain ⟨v, u, o, q, rfl, h1, h2⟩ := ow.two
    refine ⟨_, .bl (!b), rfl, by simp [isSc], fun q => ?_⟩
    rcases inB_ok h1 h2 e1 with ⟨d, ds, a1, a2, a3, a4, rfl⟩ | ⟨d, ds, a1, a2, a3, a4, rfl⟩ | ⟨c, z, rfl, rfl, rfl⟩ | hd
    · exact .inl ⟨d, ds, a1, a2, a3, a4, q⟩
    · exact .inr (.inl ⟨d, ds, a1, a2, a3, a4, q⟩)
    · exact .inr (.inr (.inl ⟨c, z, rfl, rfl, q⟩))
    · exact .inr (.inr (.inr ⟨b, hd, q⟩))
  · cases e

/-! ### calls of built-ins -/
theorem sa_callB {id : String} {f : List Cell → R Cell} {r : List V → Hp → VK → Prop} {x : Str} {e : Expr} {es : List Expr} {ms : List AE} {p pos : Pos} (hc : CallR X (.builtin id) r) (hs : CallS X r f) (hm : X.mg x = none) (hv : bootBuiltins x = some (.builtin id)) (ha : SAs X (e :: es) ms)
    (hg : Gl X x := by rfl) (hn : x ≠ "__name__" := by decide) (hdb : (x == ("__debug__" : Str)) = false := by decide)
    (he : starEach (e :: es) X.env = (false, eval e X.env) :: starEach es X.env := by rfl) (hpl : (backTo pos (starEach es X.env)).any (·.1) = false := by rfl) : SA X (.Call (.Name x p) (e :: es) [] pos) (mPrim f ms) :=
  sa_prim hs ha fun _ q => pe_callB hc hg hm hv q hn hdb he hpl
theorem sa_callTy {T : String} {f : List Cell → R Cell} {r : List V → Hp → VK → Prop} {x : Str} {e : Expr} {es : List Expr} {ms : List AE} {p pos : Pos} (hc : CallR X (.type T) r) (hs : CallS X r f) (hm : X.mg x = none) (hv : bootBuiltins x = some (.type T)) (ha : SAs X (e :: es) ms)
    (hg : Gl X x := by rfl) (hn : x ≠ "__name__" := by decide) (hdb : (x == ("__debug__" : Str)) = false := by decide)
    (he : starEach (e :: es) X.env = (false, eval e X.env) :: starEach es X.env := by rfl) (hpl : (backTo pos (starEach es X.env)).any (·.1) = false := by rfl) : SA X (.Call (.Name x p) (e :: es) [] pos) (mPrim f ms) :=
  sa_prim hs ha fun _ q => pe_callTy hc hg hm hv q hn hdb he hpl

/-- len -/
def fLen : List Cell → R Cell
  | [⟨.tup l, _⟩] => .ok (Cell.fz (.int l.length))
  | [⟨.lst l, _⟩] => .ok (Cell.fz (.int l.length))
  | [⟨.scr l, _⟩] => .ok (Cell.fz (.int l.length))
  | [⟨.str x, _⟩] => if x.length ≤ 16777216 then .ok (Cell.fz (.int x.length)) else .bad
  | [⟨.dct ks _, _⟩] => if ks.all D.sk then .ok (Cell.fz (.int ks.length)) else .bad
  | _ => .bad
def rLenD : List V → Hp → VK → Prop := fun xs H Q => ∃ d kvs, xs = [.ref d] ∧ Rd H d (.dK kvs) ∧ Q (.int kvs.length) H
theorem call_lenDR : CallR X (.builtin "len") rLenD := by
  intro pins s σ H xs us Q I r h
  obtain ⟨d, kvs, rfl, hd, q⟩ := h
  obtain ⟨u, rfl, rx⟩ := vals1 r
  obtain rfl : u = Value.ref d := rx
  exact d_len I hd fun t s' I' => ⟨.int kvs.length, H, I', ⟨t, rfl⟩, q⟩
def rLenAll (K : PySem.W.Frag) : List V → Hp → VK → Prop := fun xs H Q => (∃ x n, xs = [x] ∧ LenV K x H n ∧ Q (.int n) H) ∨ rLenD xs H Q
theorem call_lenAll : CallR X (.builtin "len") (rLenAll X.K) := by
  intro pins s σ H xs us Q I r h
  rcases h with h | h
  · exact call_len pins s σ H xs us Q I r h
  · exact call_lenDR pins s σ H xs us Q I r h
theorem s_len : CallS X (rLenAll X.K) fLen := s_scalar fun K H w cs vs c Q hK ow e => by
  subst hK
  unfold fLen at e
  split at e
  · rename_i l _
    cases e
    obtain ⟨v, o, rfl, h1⟩ := ow.one
    obtain ⟨a, xs, rfl, ta, fa⟩ := ow_tup h1
    exact ⟨_, .int l.length, rfl, by simp [isSc], fun q => .inl ⟨_, _, rfl, .inr ⟨_, ta.sq, fa.length⟩, q⟩⟩
  · rename_i l _
    cases e
    obtain ⟨v, o, rfl, h1⟩ := ow.one
    obtain ⟨a, xs, rfl, ta, la, fa⟩ := ow_lst h1
    exact ⟨_, .int l.length, rfl, by simp [isSc], fun q => .inl ⟨_, _, rfl, .inl ⟨_, .inl (.inl ta), la⟩, q⟩⟩
  · rename_i l _
    cases e
    obtain ⟨v, o, rfl, h1⟩ := ow.one
    obtain ⟨a, xs, rfl, ta, fa⟩ := ow_scr h1
    exact ⟨_, .int l.length, rfl, by simp [isSc], fun q => .inl ⟨_, _, rfl, .inl ⟨_, ta, fa.length⟩, q⟩⟩
  · split at e
    · rename_i x _ hx
      cases e
      obtain ⟨v, o, rfl, h1⟩ := ow.one
      cases ow_str h1
      exact ⟨_, .int x.length, rfl, by simp [isSc], fun q => .inl ⟨_, _, rfl, ⟨by rw [sizeLine_eq]; exact hx, rfl⟩, q⟩⟩
    · cases e
  · rename_i ks _ _
    split at e
    · rename_i hsk
      cases e
      obtain ⟨v, o, rfl, h1⟩ := ow.one
      obtain ⟨a, kvs, rfl, ha, hk, fa⟩ := ow_dctS hsk h1
      have el : ks.length = kvs.length := by rw [← hk, List.length_map]
      exact ⟨_, .int ks.length, rfl, by simp [isSc], fun q => .inr ⟨_, _, rfl, ha, by rw [← el]; exact q⟩⟩
    · cases e
  · cases e
/-- tuple(x) -/
def fTuple : List Cell → R Cell
  | [⟨.tup l, _⟩] => .ok (Cell.fz (.tup l))
  | [⟨.lst l, k⟩] => if k ≤ 1 then .ok (Cell.fz (.tup l)) else .bad
  | _ => .bad
theorem s_tuple : CallS X (fun xs H Q => ∃ p ys, xs = [.ref p] ∧ ((SqL X.K H p ys ∧ ∀ l o, H l = none → o.dict = none → Q (.ref l) (upd H l (.frz o (.tup ys)))) ∨ (SqT X.K H p ys ∧ Q (.ref p) H))) fTuple := by
  intro n H w σ ρ cs vs c Q ok ow e k
  unfold fTuple at e
  split at e
  · cases e
    obtain ⟨v, o, rfl, h1⟩ := ow.one
    obtain ⟨a, xs, rfl, ta, fa⟩ := ow_tup h1
    exact ⟨_, _, rfl, .inr ⟨ta.sq, k _ H w ok Step.refl (.fz (.tup ta fa))⟩⟩
  · split at e
    · rename_i hc
      cases e
      obtain ⟨v, o, rfl, h1⟩ := ow.one
      obtain ⟨a, xs, rfl, ta, la, fa⟩ := ow_lst h1
      refine ⟨_, xs, rfl, .inl ⟨.inl (.inl ta), fun p ob hp hd => ?_⟩⟩
      exact k _ _ (w.put p .no) (ok.new hp .no) (Step.new hp) (.fz (.tup (.inl ⟨⟨ob, upd_same, hd⟩, OM.put_same⟩) ((fa hc).step (Kp.new hp .no))))
    · cases e
  · cases e
/-- list(x) -/
def fList : List Cell → R Cell
  | [⟨.tup l, _⟩] => .ok ⟨.lst l, 1⟩
  | [⟨.lst l, k⟩] => if k ≤ 1 then .ok ⟨.lst l, 1⟩ else .bad
  | [⟨.scr l, _⟩] => .ok ⟨.lst l, 1⟩
  | _ => .bad
theorem s_list : CallS X (fun xs H Q => ∃ p ys, xs = [.ref p] ∧ (SqL X.K H p ys ∨ SqT X.K H p ys) ∧ ∀ l, H l = none → Q (.ref l) (upd H l (.lst ys))) fList := by
  intro n H w σ ρ cs vs c Q ok ow e k
  unfold fList at e
  split at e
  · cases e
    obtain ⟨v, o, rfl, h1⟩ := ow.one
    obtain ⟨a, xs, rfl, ta, fa⟩ := ow_tup h1
    refine ⟨_, xs, rfl, .inr ta.sq, fun p hp => ?_⟩
    exact k _ _ (w.put p (.tm n)) (ok.new hp _) (Step.new hp) (.lst upd_same OM.put_same (fa.step (Kp.new hp .no)))
  · split at e
    · rename_i hc
      cases e
      obtain ⟨v, o, rfl, h1⟩ := ow.one
      obtain ⟨a, xs, rfl, ta, la, fa⟩ := ow_lst h1
      refine ⟨_, xs, rfl, .inl (.inl (.inl ta)), fun p hp => ?_⟩
      exact k _ _ (w.put p (.tm n)) (ok.new hp _) (Step.new hp) (.lst upd_same OM.put_same ((fa hc).step (Kp.new hp .no)))
    · cases e
  · cases e
    obtain ⟨v, o, rfl, h1⟩ := ow.one
    obtain ⟨a, xs, rfl, ta, fa⟩ := ow_scr h1
    refine ⟨_, xs, rfl, .inl ta, fun p hp => ?_⟩
    exact k _ _ (w.put p (.tm n)) (ok.new hp _) (Step.new hp) (.lst upd_same OM.put_same (fa.step (Kp.new hp .no)))
  · cases e
/-- int(x) of an int or a bool -/
def fInt : List Cell → R Cell
  | [⟨.int i, _⟩] => .ok (Cell.fz (.int i))
  | [⟨.bl b, _⟩] => .ok (Cell.fz (.int (if b then 1 else 0)))
  | _ => .bad
theorem s_int : CallS X (fun xs H Q => (∃ i, xs = [.int i] ∧ Q (.int i) H) ∨ ∃ k, xs = [.bl k] ∧ Q (.int (if k then 1 else 0)) H) fInt := s_scalar fun K H w cs vs c Q hK ow e => by
  unfold fInt at e
  split at e
  · rename_i i _
    cases e
    obtain ⟨v, o, rfl, h1⟩ := ow.one
    cases ow_int h1
    exact ⟨_, .int i, rfl, by simp [isSc], fun q => .inl ⟨_, rfl, q⟩⟩
  · rename_i b _
    cases e
    obtain ⟨v, o, rfl, h1⟩ := ow.one
    cases ow_bl h1
    exact ⟨_, .int (if b then 1 else 0), rfl, by simp [isSc], fun q => .inr ⟨_, rfl, q⟩⟩
  · cases e
def fAbs : List Cell → R Cell
  | [⟨.int i, _⟩] => .ok (Cell.fz (.int (if i < 0 then -i else i)))
  | _ => .bad
theorem s_abs : CallS X (fun xs H Q => ∃ i, xs = [.int i] ∧ Q (.int (if i < 0 then -i else i)) H) fAbs := s_scalar fun K H w cs vs c Q hK ow e => by
  unfold fAbs at e
  split at e
  · rename_i i _
    cases e
    obtain ⟨v, o, rfl, h1⟩ := ow.one
    cases ow_int h1
    exact ⟨_, .int (if i < 0 then -i else i), rfl, by simp [isSc], fun q => ⟨_, rfl, q⟩⟩
  · cases e
/-! #### lists of ints, of bools -/
def asInts : List D → Option (List Int)
  | [] => some []
  | .int i :: r => match asInts r with
    | some is => some (i :: is)
    | none => none
  | _ :: _ => none
theorem asInts_map : ∀ ns : List Int, asInts (ns.map D.int) = some ns
  | [] => rfl
  | n :: ns => by rw [List.map_cons, asInts, asInts_map ns]
theorem asInts_eq : ∀ {l : List D} {ns : List Int}, asInts l = some ns → l = ns.map D.int
  | [], ns, h => by cases h; rfl
  | d :: r, ns, h => by
    cases d with
    | int i =>
      unfold asInts at h
      cases e : asInts r with
      | none => rw [e] at h; cases h
      | some is => rw [e] at h; cases h; rw [asInts_eq e]; rfl
    | _ => cases h
def asBls : List D → Option (List Bool)
  | [] => some []
  | .bl i :: r => match asBls r with
    | some is => some (i :: is)
    | none => none
  | _ :: _ => none
theorem asBls_eq : ∀ {l : List D} {ns : List Bool}, asBls l = some ns → l = ns.map D.bl
  | [], ns, h => by cases h; rfl
  | d :: r, ns, h => by
    cases d with
    | bl i =>
      unfold asBls at h
      cases e : asBls r with
      | none => rw [e] at h; cases h
      | some is => rw [e] at h; cases h; rw [asBls_eq e]; rfl
    | _ => cases h
theorem sq_bls {H : Hp} {w : OM} {c : Cell} {v : V} {o : Own} {l : List D} {ns : List Bool} (hk : c.k ≤ 1) (hd : c.d = .lst l) (h : Ow X.K H w o c.k c.d v) (e : asBls l = some ns) : ∃ a, v = .ref a ∧ SqL X.K H a (ns.map V.bl) := by
  rw [hd] at h
  obtain ⟨a, xs, rfl, ta, la, fa⟩ := ow_lst h
  have f := fa hk
  rw [asBls_eq e] at f
  rw [f.bls] at ta
  exact ⟨a, rfl, .inl (.inl ta)⟩
/-- a rule over a list of ints -/
def onInts (g : List Int → R D) : List Cell → R Cell
  | [⟨.lst l, k⟩] => if k ≤ 1 then match asInts l with
      | some ns => do
        let d ← g ns
        R.ok (Cell.fz d)
      | none => .bad
    else .bad
  | _ => .bad
def onBls (g : List Bool → R D) : List Cell → R Cell
  | [⟨.lst l, k⟩] => if k ≤ 1 then match asBls l with
      | some ns => do
        let d ← g ns
        R.ok (Cell.fz d)
      | none => .bad
    else .bad
  | _ => .bad
theorem s_onBls {r : List V → Hp → VK → Prop} {g : List Bool → R D} (h : ∀ H a ns d Q, SqL X.K H a (ns.map V.bl) → g ns = .ok d → ∃ v, isSc d v = true ∧ (Q v H → r [.ref a] H Q)) : CallS X r (onBls g) := s_scalar fun K H w cs vs c Q hK ow e => by
  subst hK
  unfold onBls at e
  split at e
  · split at e
    · rename_i hk
      split at e
      · rename_i ns hn
        obtain ⟨d, e1, e⟩ := R.of_bind e
        cases e
        obtain ⟨v, o, rfl, h1⟩ := ow.one
        obtain ⟨a, rfl, sq⟩ := sq_bls hk rfl h1 hn
        obtain ⟨v, hs, q⟩ := h H a ns d Q sq e1
        exact ⟨d, v, rfl, hs, q⟩
      · cases e
    · cases e
  · cases e
def maxL : Int → List Int → Int
  | m, [] => m
  | m, x :: r => maxL (if m < x then x else m) r
def minL : Int → List Int → Int
  | m, [] => m
  | m, x :: r => minL (if x < m then x else m) r
/-- max(xs) of a list, max(i, j) -/
def fMax : List Cell → R Cell
  | [⟨.int i, _⟩, ⟨.int j, _⟩] => .ok (Cell.fz (.int (if j > i then j else i)))
  | cs => onInts (fun ns => match ns with
    | [] => .bad
    | x :: r => .ok (.int (maxL x r))) cs
def fMin : List Cell → R Cell
  | [⟨.int i, _⟩, ⟨.int j, _⟩] => .ok (Cell.fz (.int (if j < i then j else i)))
  | cs => onInts (fun ns => match ns with
    | [] => .bad
    | x :: r => .ok (.int (minL x r))) cs
def fAll : List Cell → R Cell := onBls fun bs => .ok (.bl (bs.all id))
def fAny : List Cell → R Cell := onBls fun bs => .ok (.bl (bs.any id))
theorem s_all : CallS X (rAll X.K) fAll := s_onBls fun H a ns d Q sq e => by
  cases e
  exact ⟨.bl (ns.all id), by simp [isSc], fun q => ⟨a, ns, rfl, sq, q⟩⟩
end
end Z

/-! Z: subscripts, slices, displays, tests. -/
namespace Z
open PySem PySem.Spec PyProof.Rows L2
section
variable {K : PySem.W.Frag} {H : Hp} {w : OM}
theorem atI_fz {ds : List D} {vs : List V} {i : Int} {d : D} (h : FzL K H w ds vs) (e : atI ds i = some d) : ∃ v, atI vs i = some v ∧ Fz K H w d v := by
  unfold atI at e ⊢
  rw [← h.length]
  cases q : ixN ds.length i with
  | none => rw [q] at e; cases e
  | some j =>
    rw [q] at e
    obtain ⟨v, h1, h2⟩ := h.get (i := j) e
    exact ⟨v, h1, h2⟩
end
def fIxS : List Cell → R Cell
  | [⟨.tup l, _⟩, ⟨.int i, _⟩] => match atI l i with
    | some d => .ok (Cell.fz d)
    | none => .bad
  | [⟨.lst l, k⟩, ⟨.int i, _⟩] => if k ≤ 1 then match atI l i with
      | some d => .ok (Cell.fz d)
      | none => .bad
    else .bad
  | [⟨.scr l, _⟩, ⟨.int i, _⟩] => match atI l i with
    | some d => .ok (Cell.fz d)
    | none => .bad
  | [⟨.str z, _⟩, ⟨.int i, _⟩] => if z.length ≤ 16777216 then match atI z.cps.toList i with
      | some c => .ok (Cell.fz (.str ⟨#[c]⟩))
      | none => .bad
    else .bad
  | _ => .bad
def fIxD : List Cell → R Cell
  | [⟨.dct ks ds, _⟩, c] => match keyD c.d with
    | some q => if ks.all D.sk then match dGet ks ds c.d with
      | some d => .ok (Cell.fz d)
      | none => .bad
      else .bad
    | none => .bad
  | _ => .bad
def fIxU : List Cell → R Cell
  | [⟨.dct ks ds, _⟩, c] => if c.d.tk && ks.all D.tk then match dGet ks ds c.d with
    | some d => .ok (Cell.fz d)
    | none => .bad
    else .bad
  | _ => .bad
def fIx : List Cell → R Cell
  | [⟨.dct ks ds, k⟩, c] => if c.d.tk then fIxU [⟨.dct ks ds, k⟩, c] else fIxD [⟨.dct ks ds, k⟩, c]
  | cs => fIxS cs
section
variable {X : Cx}
theorem s_ixS : CallS X (r2L (rIx X.K)) fIxS := by
  intro n H w σ ρ cs vs c Q ok ow e k
  have fin : ∀ {d : D} {v : V}, c = Cell.fz d → Fz X.K H w d v → Q v H := fun e h => by subst e; exact k _ H w ok Step.refl (.fz h)
  unfold fIxS at e
  split at e
  · split at e
    · rename_i hi
      cases e
      obtain ⟨v, u, o, q, rfl, h1, h2⟩ := ow.two
      cases ow_int h2
      obtain ⟨a, xs, rfl, ta, fa⟩ := ow_tup h1
      obtain ⟨z, hz, fz⟩ := atI_fz fa hi
      exact .inr (.inl ⟨a, xs, _, z, rfl, rfl, ta.sq, hz, fin rfl fz⟩)
    · cases e
  · split at e
    · rename_i hk
      split at e
      · rename_i hi
        cases e
        obtain ⟨v, u, o, q, rfl, h1, h2⟩ := ow.two
        cases ow_int h2
        obtain ⟨a, xs, rfl, ta, la, fa⟩ := ow_lst h1
        obtain ⟨z, hz, fz⟩ := atI_fz (fa hk) hi
        exact .inl ⟨a, xs, _, z, rfl, rfl, .inl (.inl ta), hz, fin rfl fz⟩
      · cases e
    · cases e
  · split at e
    · rename_i hi
      cases e
      obtain ⟨v, u, o, q, rfl, h1, h2⟩ := ow.two
      cases ow_int h2
      obtain ⟨a, xs, rfl, ta, fa⟩ := ow_scr h1
      obtain ⟨z, hz, fz⟩ := atI_fz fa hi
      exact .inl ⟨a, xs, _, z, rfl, rfl, ta, hz, fin rfl fz⟩
    · cases e
  · split at e
    · rename_i hl
      split at e
      · rename_i hi
        cases e
        obtain ⟨v, u, o, q, rfl, h1, h2⟩ := ow.two
        cases ow_int h2
        cases ow_str h1
        exact .inr (.inr ⟨_, _, _, rfl, rfl, by rw [sizeLine_eq]; exact hl, hi, fin rfl (.str _)⟩)
      · cases e
    · cases e
  · cases e
theorem s_ixD : CallS X (r2L fun x y H Q => ∃ a v, x = .ref a ∧ DGet H a y (some v) ∧ Q v H) fIxD := by
  intro n H w σ ρ cs vs c Q ok ow e k
  have fin : ∀ {d : D} {v : V}, c = Cell.fz d → Fz X.K H w d v → Q v H := fun e h => by subst e; exact k _ H w ok Step.refl (.fz h)
  unfold fIxD at e
  split at e
  · split at e
    · rename_i hq
      split at e
      · rename_i hsk
        split at e
        · rename_i hd
          cases e
          obtain ⟨v, u, o, q, rfl, h1, h2⟩ := ow.two
          obtain ⟨a, kvs, rfl, ha, hk, fa⟩ := ow_dctS hsk h1
          cases keyD_ow hq h2
          subst hk
          rw [keyD_eq hq] at hd
          obtain ⟨z, hz, fz⟩ := dGet_fz fa _ hd
          exact ⟨a, z, rfl, .inl ⟨kvs, _, ha, rfl, hz.symm⟩, fin rfl fz⟩
        · cases e
      · cases e
    · cases e
  · cases e
def rIxU (X : Cx) : R2 := fun x y H Q => ∃ a b xs k p v, x = .ref a ∧ y = .ref b ∧ UAt0 X H a xs ∧ k.tk = true ∧ NkV X H k (.ref b) ∧ uGet xs k = some p ∧ RelV v p.2 ∧ Q v H
theorem s_ixU : CallS X (r2L (rIxU X)) fIxU := by
  intro n H w σ ρ cs vs c Q ok ow e k
  have fin : ∀ {d : D} {v : V}, c = Cell.fz d → Fz X.K H w d v → Q v H := fun e h => by subst e; exact k _ H w ok Step.refl (.fz h)
  unfold fIxU at e
  split at e
  · split at e
    · rename_i hc
      rw [Bool.and_eq_true] at hc
      split at e
      · rename_i hd
        cases e
        obtain ⟨v, u, o, q, rfl, h1, h2⟩ := ow.two
        obtain ⟨a, xs, ws, rfl, hu, hk, r, fa⟩ := ow_dctU hc.2 h1
        obtain ⟨b, rfl, kv, _⟩ := ow_tk hc.1 h2
        subst hk
        obtain ⟨p, z, hz, rz, fz⟩ := dGet_u fa r _ hd
        exact ⟨a, b, xs, _, p, z, rfl, rfl, hu, hc.1, kv, hz, rz, fin rfl fz⟩
      · cases e
    · cases e
  · cases e
theorem pe_uget {o i : Expr} {td ty : TE} {pos : Pos} (hu : X.A.units + 65 < cLine) (ho : PE X o td) (hi : PE X i ty) (hs : NoSl i) : PE X (.Subscript o i pos) (tOp (rIxU X) td ty) := by
  refine ⟨fun pins s σ H Q I h => ?_⟩
  refine subD_of PySem.F.slot_dict_getitem.lookup hs (thn (ho.run pins s σ H _ I h) fun u s1 ⟨x, H1, I1, rx, q1⟩ => thn (hi.run pins s1 σ H1 _ I1 q1) fun iv s2 ⟨y, H2, I2, ry, a, b, xs, k, p, v, ex, ey, g, hk, kv, hp, rv, q2⟩ => ?_)
  subst ex ey
  obtain rfl : u = Value.ref a := rx
  obtain rfl : iv = Value.ref b := ry
  obtain ⟨_, _, _, hd⟩ := g.dict I2
  exact ⟨hd.typeIs, u_getItem hu I2 g hk kv hp rv fun w' s3 I3 rw' => ⟨v, H2, I3, rw', q2⟩⟩
/-- one of two -/
theorem SA.either {e : Expr} {m1 m2 m : AE} (h1 : SA X e m1) (h2 : SA X e m2) (h : ∀ ρ s ρ', m ρ = .ok (s, ρ') → m1 ρ = .ok (s, ρ') ∨ m2 ρ = .ok (s, ρ')) : SA X e m := by
  obtain ⟨t, p, g⟩ := h1.ex
  obtain ⟨u, q, g'⟩ := h2.ex
  refine ⟨_, PE.or p q, fun n σ H w ρ s ρ' Q ok hm k => ?_⟩
  rcases h ρ s ρ' hm with z | z
  · exact .inl (g n σ H w ρ s ρ' Q ok z k)
  · exact .inr (g' n σ H w ρ s ρ' Q ok z k)
theorem mPrim_either {f g h : List Cell → R Cell} {ms : List AE} (z : ∀ cs, h cs = f cs ∨ h cs = g cs) : ∀ ρ s ρ', mPrim h ms ρ = .ok (s, ρ') → mPrim f ms ρ = .ok (s, ρ') ∨ mPrim g ms ρ = .ok (s, ρ') := by
  intro ρ s ρ' e
  obtain ⟨ss, cs, c, e1, e2, e3, rfl⟩ := mPrim_ok e
  have fin : ∀ f' : List Cell → R Cell, h cs = f' cs → mPrim f' ms ρ = .ok (.v c, ρ') := fun f' q => by
    unfold mPrim
    rw [e1]
    simp only [R.ok_bind]
    rw [e2]
    simp only
    rw [← q, e3]
    rfl
  rcases z cs with z | z
  · exact .inl (fin f z)
  · exact .inr (fin g z)
def fIxDU : List Cell → R Cell
  | [⟨.dct ks ds, k⟩, c] => if c.d.tk then fIxU [⟨.dct ks ds, k⟩, c] else fIxD [⟨.dct ks ds, k⟩, c]
  | _ => .bad
theorem fIxDU_either (cs : List Cell) : fIxDU cs = fIxU cs ∨ fIxDU cs = fIxD cs := by
  unfold fIxDU
  split
  · split
    · exact .inl rfl
    · exact .inr rfl
  · rename_i h
    refine .inl ?_
    unfold fIxU
    split
    · exact absurd rfl (h _ _ _ _)
    · rfl
theorem fIx_either (cs : List Cell) : fIx cs = fIxS cs ∨ fIx cs = fIxDU cs := by
  unfold fIx
  split
  · exact .inr rfl
  · exact .inl rfl
theorem sa_ix {a b : Expr} {ma mb : AE} {pos : Pos} (hu : X.A.units + 65 < cLine) (ha : SA X a ma) (hb : SA X b mb) (hs : PlainIx b := by exact fun _ _ => rfl) : SA X (.Subscript a b pos) (mPrim fIx [ma, mb]) :=
  SA.either (sa_prim2 s_ixS ha hb fun t u p q => pe_ix ix_seq p q hs)
    (SA.either (sa_prim2 s_ixU ha hb fun t u p q => pe_uget hu p q hs) (sa_prim2 s_ixD ha hb fun t u p q => pe_dget (by omega) p q hs) (mPrim_either fIxDU_either)) (mPrim_either fIx_either)

/-! ### slices -/
def cutD (xs : List D) (lo hi : Option Int) : List D := (xs.drop (HT.sIx xs.length 0 lo)).take (HT.sIx xs.length xs.length hi - HT.sIx xs.length 0 lo)
theorem cutD_fz {K : PySem.W.Frag} {H : Hp} {w : OM} {ds : List D} {vs : List V} (h : FzL K H w ds vs) (lo hi : Option Int) : FzL K H w (cutD ds lo hi) (cutV vs lo hi) := by
  unfold cutD cutV
  rw [h.length]
  exact (h.drop _).take _
def fSl (c : Cell) (lo hi : Option Int) : R Cell := match c with
  | ⟨.tup l, _⟩ => .ok (Cell.fz (.tup (cutD l lo hi)))
  | ⟨.lst l, k⟩ => if k ≤ 1 then .ok ⟨.lst (cutD l lo hi), 1⟩ else .bad
  | ⟨.str z, _⟩ => if z.length ≤ 16777216 then .ok (Cell.fz (.str (cutS z lo hi))) else .bad
  | _ => .bad
def evO : Option AE → Env → R (Option Int × Env)
  | none, ρ => .ok (none, ρ)
  | some m, ρ => do
    let (s, ρ1) ← m ρ
    match s.cell ρ1 with
    | some ⟨.int i, _⟩ => R.ok (some i, ρ1)
    | _ => R.bad
structure SPO (X : Cx) (e : Option Expr) (m : Option AE) : Prop where
  ex : ∃ t, PO X e t ∧ ∀ (n : Nat) (σ : L2.St) (H : Hp) (w : OM) (ρ : Env) (o : Option Int) (ρ' : Env) (Q : Option Int → Hp → Prop), Ok X.K H w σ ρ → evO m ρ = .ok (o, ρ') →
    (∀ H' w', Ok X.K H' w' σ ρ' → Step n H w H' w' → Q o H') → t σ H Q
theorem spo_none : SPO X none none := ⟨_, po_none, fun n σ H w ρ o ρ' Q ok h k => by
  cases h
  exact k H w ok Step.refl⟩
theorem spo_some {e : Expr} {m : AE} (h : SA X e m) : SPO X (some e) (some m) := by
  obtain ⟨t, p, g⟩ := h.ex
  refine ⟨_, po_some p, fun n σ H w ρ o ρ' Q ok hm k => ?_⟩
  obtain ⟨⟨s, ρ1⟩, e1, hm⟩ := R.of_bind hm
  dsimp only at hm
  split at hm
  · rename_i i _ hc
    cases hm
    refine g n σ H w ρ s _ _ ok e1 fun v H' w' ok' st sa => ?_
    obtain ⟨o, _, h1⟩ := sa.cell ok' hc
    exact ⟨i, ow_int h1, k H' w' ok' st⟩
  · cases hm
def mSl (a : AE) (lo hi : Option AE) : AE := fun ρ => do
  let (s, ρ1) ← a ρ
  let (l, ρ2) ← evO lo ρ1
  let (u, ρ3) ← evO hi ρ2
  match s.cell ρ3 with
  | some c => do
    let r ← fSl c l u
    R.ok (.v r, ρ3)
  | none => R.bad
def rSlAll (K : PySem.W.Frag) : V → Option Int → Option Int → Hp → VK → Prop := fun x lo hi H Q => rSlF K x lo hi H Q ∨ rSlL K x lo hi H Q ∨ rSlS x lo hi H Q
theorem sa_slice {e : Expr} {m : AE} {lo hi : Option Expr} {ml mh : Option AE} {p2 pos : Pos} (he : SA X e m) (hl : SPO X lo ml) (hh : SPO X hi mh) : SA X (.Subscript e (.Slice lo hi none p2) pos) (mSl m ml mh) := by
  obtain ⟨t, p, g⟩ := he.ex
  obtain ⟨tl, pl, gl⟩ := hl.ex
  obtain ⟨th, ph, gh⟩ := hh.ex
  refine ⟨_, pe_slice (r := rSlAll X.K) (sl_tupF.or (sl_list.or sl_str)) p pl ph, fun n σ H w ρ s ρ' Q ok hm k => ?_⟩
  obtain ⟨⟨s1, ρ1⟩, e1, hm⟩ := R.of_bind hm
  obtain ⟨⟨l, ρ2⟩, e2, hm⟩ := R.of_bind hm
  obtain ⟨⟨u, ρ3⟩, e3, hm⟩ := R.of_bind hm
  dsimp only at hm e2 e3
  split at hm
  · rename_i c hc
    obtain ⟨r, e4, hm⟩ := R.of_bind hm
    cases hm
    refine g n σ H w ρ s1 _ _ ok e1 fun v H1 w1 ok1 st1 sa => ?_
    refine gl (n + 1) σ H1 w1 ρ1 l _ _ ok1 e2 fun H2 w2 ok2 st2 => ?_
    refine gh (n + 1) σ H2 w2 ρ2 u _ _ ok2 e3 fun H3 w3 ok3 st3 => ?_
    have st := st1.trans ((st2.trans st3).mono (Nat.le_succ n))
    obtain ⟨o, _, h1⟩ := (sa.step (st2.trans st3) (Nat.lt_succ_self n)).cell ok3 hc
    unfold fSl at e4
    split at e4
    · cases e4
      obtain ⟨a, xs, rfl, ta, fa⟩ := ow_tup h1
      refine .inl ⟨a, xs, rfl, ta.sq, fun z => ?_, fun _ p ob hp hd => ?_⟩
      · refine k _ H3 w3 ok3 st (.fz (.tup ta ?_))
        unfold cutD
        rw [fa.length, z.1, z.2, List.drop_zero, Nat.sub_zero, ← fa.length, List.take_length]
        exact fa
      · exact k _ _ (w3.put p .no) (ok3.new hp .no) (st.trans (Step.new hp)) (.fz (.tup (.inl ⟨⟨ob, upd_same, hd⟩, OM.put_same⟩) ((cutD_fz fa l u).step (Kp.new hp .no))))
    · split at e4
      · rename_i hk
        cases e4
        obtain ⟨a, xs, rfl, ta, la, fa⟩ := ow_lst h1
        refine .inr (.inl ⟨a, xs, rfl, .inl (.inl ta), fun p hp => ?_⟩)
        exact k _ _ (w3.put p (.tm n)) (ok3.new hp _) (st.trans (Step.new hp)) (.lst upd_same OM.put_same ((cutD_fz (fa hk) l u).step (Kp.new hp .no)))
      · cases e4
    · split at e4
      · rename_i hz
        cases e4
        cases ow_str h1
        exact .inr (.inr ⟨_, rfl, by rw [sizeLine_eq]; exact hz, k _ H3 w3 ok3 st (.fz (.str _))⟩)
      · cases e4
    · cases e4
  · cases hm

/-! ### what is handed on: frozen -/
def esc : Src → Env → R (Cell × Env)
  | .v c, ρ => .ok (c, ρ)
  | .s i, ρ => match ρ.get i with
    | some ⟨d, 0⟩ => .ok (Cell.fz d, ρ)
    | some ⟨d, _ + 1⟩ => .ok (Cell.fz d, ρ.set i (some ⟨d, 0⟩))
    | none => .bad
/-- escapes: the cell's value at tm n; from a slot it is frozen -/
theorem esc_ok {K : PySem.W.Frag} {H : Hp} {w : OM} {σ : L2.St} {ρ ρ' : Env} {n : Nat} {s : Src} {v : V} {c : Cell} (ok : Ok K H w σ ρ) (h : SrcAt K H w σ n s v) (e : esc s ρ = .ok (c, ρ')) :
    ∃ w', Ok K H w' σ ρ' ∧ (∀ m, Step m H w H w') ∧ Ow K H w' (.tm n) c.k c.d v ∧ (∀ o, o ≠ .no → (∀ i, o ≠ .sl i) → Kp o H w H w') := by
  cases s with
  | v c' =>
    cases e
    exact ⟨w, ok, fun _ => Step.refl, h, fun o _ _ a x z _ => ⟨z, rfl⟩⟩
  | s i =>
    unfold esc at e
    dsimp only at e
    have h : σ[i]? = some (some v) := h
    split at e
    · rename_i d hc
      cases e
      obtain ⟨u, e1, q⟩ := ok.slot i _ hc
      rw [h] at e1
      cases e1
      refine ⟨w, ok, fun _ => Step.refl, ?_, fun o _ _ a x z _ => ⟨z, rfl⟩⟩
      cases q with
      | fz q => exact .fz q
    · rename_i d k hc
      cases e
      obtain ⟨u, e1, q⟩ := ok.slot i _ hc
      rw [h] at e1
      cases e1
      refine ⟨w.re (.sl i) .no, ok.freeze hc, fun m => Step.re not_fixed_sl, .fz (q.freeze (by intro z; cases z)), fun o h1 h2 => Kp.re (by intro z; cases z) o (h2 i)⟩
    · cases e
/-- all of a list, frozen -/
def escs : List Src → Env → R (List D × Env)
  | [], ρ => .ok ([], ρ)
  | s :: ss, ρ => do
    let (c, ρ1) ← esc s ρ
    let (ds, ρ2) ← escs ss ρ1
    R.ok (c.d :: ds, ρ2)
theorem SrcsAt.kp {K : PySem.W.Frag} {H : Hp} {w w' : OM} {σ : L2.St} : ∀ {ss : List Src} {vs : List V} {n : Nat}, SrcsAt K H w σ n ss vs → (∀ j, n ≤ j → Kp (.tm j) H w H w') → SrcsAt K H w' σ n ss vs
  | [], [], _, _, _ => trivial
  | [], _ :: _, _, h, _ => h.elim
  | _ :: _, [], _, h, _ => h.elim
  | s :: ss, v :: vs, n, ⟨h, t⟩, k => by
    refine ⟨?_, SrcsAt.kp t fun j hj => k j (by omega)⟩
    cases s with
    | v c => exact Ow.step (k n (Nat.le_refl n)) h
    | s i => exact h
theorem escs_ok {K : PySem.W.Frag} {H : Hp} {σ : L2.St} : ∀ {ss : List Src} {vs : List V} {n : Nat} {w : OM} {ρ ρ' : Env} {ds : List D}, Ok K H w σ ρ → SrcsAt K H w σ n ss vs → escs ss ρ = .ok (ds, ρ') →
    ∃ w', Ok K H w' σ ρ' ∧ Step n H w H w' ∧ FzL K H w' ds vs
  | [], [], n, w, ρ, ρ', ds, ok, _, e => by
    cases e
    exact ⟨w, ok, Step.refl, .nil⟩
  | [], _ :: _, _, _, _, _, _, _, h, _ => h.elim
  | _ :: _, [], _, _, _, _, _, _, h, _ => h.elim
  | s :: ss, v :: vs, n, w, ρ, ρ', ds, ok, ⟨h, t⟩, e => by
    obtain ⟨⟨c, ρ1⟩, e1, e⟩ := R.of_bind e
    obtain ⟨⟨ds', ρ2⟩, e2, e⟩ := R.of_bind e
    cases e
    obtain ⟨w1, ok1, st1, h1, kp1⟩ := esc_ok ok h e1
    have ok2 : Ok K H (w1.re (.tm n) .no) σ ρ1 := ok1.re (by intro z; cases z) (by intro i z; cases z)
    have f1 : Fz K H (w1.re (.tm n) .no) c.d v := h1.freeze (by intro z; cases z)
    have t1 : SrcsAt K H (w1.re (.tm n) .no) σ (n + 1) ss vs := (t.kp fun j hj => kp1 _ (by intro z; cases z) (by intro i z; cases z)).kp fun j hj => Kp.re (by intro z; cases z) _ (by intro z; cases z; omega)
    obtain ⟨w3, ok3, st3, f3⟩ := escs_ok ok2 t1 e2
    refine ⟨w3, ok3, ((st1 n).trans (Step.re not_fixed_tm)).trans (st3.mono (Nat.le_succ n)), .cons (st3.fz f1) f3⟩

/-! ### displays -/
def mTup (ms : List AE) : AE := fun ρ => do
  let (ss, ρ1) ← evs ms ρ
  let (ds, ρ2) ← escs ss ρ1
  R.ok (.v (Cell.fz (.tup ds)), ρ2)
def mLst (ms : List AE) : AE := fun ρ => do
  let (ss, ρ1) ← evs ms ρ
  let (ds, ρ2) ← escs ss ρ1
  R.ok (.v ⟨.lst ds, 1⟩, ρ2)
theorem SrcsAt.length {K : PySem.W.Frag} {H : Hp} {w : OM} {σ : L2.St} : ∀ {ss : List Src} {vs : List V} {n : Nat}, SrcsAt K H w σ n ss vs → ss.length = vs.length
  | [], [], _, _ => rfl
  | [], _ :: _, _, h => h.elim
  | _ :: _, [], _, h => h.elim
  | s :: ss, v :: vs, n, ⟨_, t⟩ => by rw [List.length_cons, List.length_cons, t.length]
theorem evs_length : ∀ {ms : List AE} {ρ ρ' : Env} {ss : List Src}, evs ms ρ = .ok (ss, ρ') → ss.length = ms.length
  | [], _, _, _, h => by cases h; rfl
  | m :: ms, ρ, ρ', ss, h => by
    obtain ⟨⟨s, ρ1⟩, e1, h⟩ := R.of_bind h
    obtain ⟨⟨ss2, ρ2⟩, e2, h⟩ := R.of_bind h
    cases h
    rw [List.length_cons, List.length_cons, evs_length e2]
theorem sa_tup {es : List Expr} {ms : List AE} {x1 : Nat} {pos : Pos} (h : SAs X es ms) (hl : ms.length ≤ 1000 := by decide) : SA X (.Tuple es x1 pos) (mTup ms) := by
  obtain ⟨t, p, g⟩ := h.ex
  refine ⟨_, pe_tupF p, fun n σ H w ρ s ρ' Q ok hm k => ?_⟩
  obtain ⟨⟨ss, ρ1⟩, e1, hm⟩ := R.of_bind hm
  obtain ⟨⟨ds, ρ2⟩, e2, hm⟩ := R.of_bind hm
  cases hm
  refine g n σ H w ρ ss _ _ ok e1 fun vs H1 w1 ok1 st1 sa => ?_
  obtain ⟨w2, ok2, st2, f2⟩ := escs_ok ok1 sa e2
  refine ⟨?_, fun p ob hp hd => ?_⟩
  · rw [sizeLine_eq, ← sa.length, evs_length e1]; omega
  · exact k _ _ (w2.put p .no) (ok2.new hp .no) ((st1.trans st2).trans (Step.new hp)) (.fz (.tup (.inl ⟨⟨ob, upd_same, hd⟩, OM.put_same⟩) (f2.step (Kp.new hp .no))))
theorem sa_lst {es : List Expr} {ms : List AE} {pos : Pos} (h : SAs X es ms) (hl : ms.length ≤ 1000 := by decide) : SA X (.List es pos) (mLst ms) := by
  obtain ⟨t, p, g⟩ := h.ex
  refine ⟨_, pe_lst p, fun n σ H w ρ s ρ' Q ok hm k => ?_⟩
  obtain ⟨⟨ss, ρ1⟩, e1, hm⟩ := R.of_bind hm
  obtain ⟨⟨ds, ρ2⟩, e2, hm⟩ := R.of_bind hm
  cases hm
  refine g n σ H w ρ ss _ _ ok e1 fun vs H1 w1 ok1 st1 sa => ?_
  obtain ⟨w2, ok2, st2, f2⟩ := escs_ok ok1 sa e2
  refine ⟨?_, fun p hp => ?_⟩
  · rw [sizeLine_eq, ← sa.length, evs_length e1]; omega
  · exact k _ _ (w2.put p (.tm n)) (ok2.new hp _) ((st1.trans st2).trans (Step.new hp)) (.lst upd_same OM.put_same (f2.step (Kp.new hp .no)))

/-! ### tests -/
abbrev MT := Env → R (Bool × Env)
structure ST (X : Cx) (e : Expr) (m : MT) : Prop where
  ex : ∃ t, PT X e t ∧ ∀ (n : Nat) (σ : L2.St) (H : Hp) (w : OM) (ρ : Env) (b : Bool) (ρ' : Env) (Q : Bool → Hp → Prop), Ok X.K H w σ ρ → m ρ = .ok (b, ρ') →
    (∀ H' w', Ok X.K H' w' σ ρ' → Step n H w H' w' → Q b H') → t σ H Q
structure SW (X : Cx) (e : Expr) (m : MT) : Prop where
  ex : ∃ t, PW X e t ∧ ∀ (n : Nat) (σ : L2.St) (H : Hp) (w : OM) (ρ : Env) (b : Bool) (ρ' : Env) (Q : Bool → Hp → Prop), Ok X.K H w σ ρ → m ρ = .ok (b, ρ') →
    (∀ H' w', Ok X.K H' w' σ ρ' → Step n H w H' w' → Q b H') → t σ H Q
theorem SW.st {e : Expr} {m : MT} (h : SW X e m) : ST X e m := by
  obtain ⟨t, p, g⟩ := h.ex
  exact ⟨t, p.pt, g⟩
def truth : D → Option Bool
  | .non => some false
  | .bl b => some b
  | .int i => some (i != 0)
  | .str x => if x.length ≤ 16777216 then some ((x.length : Int) != 0) else none
  | .tup l => some (!l.isEmpty)
  | .lst l => some (!l.isEmpty)
  | .scr l => some (!l.isEmpty)
  | .dct _ _ => none
theorem isEmpty_eq {α β : Type} {l : List α} {m : List β} (h : l.length = m.length) : l.isEmpty = m.isEmpty := by
  cases l <;> cases m <;> first | rfl | (simp at h)
theorem truth_ok {H : Hp} {w : OM} {o : Own} {k : Nat} {d : D} {v : V} {b : Bool} (h : Ow X.K H w o k d v) (e : truth d = some b) : TruV X.K v H b := by
  cases d with
  | non => cases e; cases ow_non h; rfl
  | bl c => cases e; cases ow_bl h; rfl
  | int i => cases e; cases ow_int h; rfl
  | str x =>
    have e : (if x.length ≤ 16777216 then some ((x.length : Int) != 0) else none) = some b := e
    split at e
    · rename_i hx
      cases e; cases ow_str h
      exact ⟨by rw [sizeLine_eq]; exact hx, rfl⟩
    · cases e
  | tup l =>
    cases e
    obtain ⟨a, xs, rfl, ta, fa⟩ := ow_tup h
    exact .inr (.inl ⟨xs, ta.sq, by rw [isEmpty_eq fa.length]⟩)
  | lst l =>
    cases e
    obtain ⟨a, xs, rfl, ta, la, fa⟩ := ow_lst h
    exact .inl ⟨xs, .inl (.inl ta), by rw [isEmpty_eq la]⟩
  | scr l =>
    cases e
    obtain ⟨a, xs, rfl, ta, fa⟩ := ow_scr h
    exact .inl ⟨xs, ta, by rw [isEmpty_eq fa.length]⟩
  | dct ks ds => cases e
def mTest (a : AE) : MT := fun ρ => do
  let (s, ρ1) ← a ρ
  match s.cell ρ1 with
  | some c => match truth c.d with
    | some b => R.ok (b, ρ1)
    | none => R.bad
  | none => R.bad
theorem mTest_ok {a : AE} {ρ ρ' : Env} {b : Bool} (h : mTest a ρ = .ok (b, ρ')) : ∃ s c, a ρ = .ok (s, ρ') ∧ s.cell ρ' = some c ∧ truth c.d = some b := by
  obtain ⟨⟨s, ρ1⟩, e1, h⟩ := R.of_bind h
  dsimp only at h
  split at h
  · rename_i c hc
    split at h
    · rename_i hb
      cases h
      exact ⟨s, c, e1, hc, hb⟩
    · cases h
  · cases h
/-- the truth of a value; not for comparisons, and, or, not, if -/
theorem st_truth {e : Expr} {m : AE} (ha : SA X e m) (he : ∀ whole, isTrue e X.env whole = (do let v ← whole; standAt e.pos; holding [v] (truthy v)) := by exact fun _ => rfl) : ST X e (mTest m) := by
  obtain ⟨t, p, g⟩ := ha.ex
  refine ⟨_, pt_truth p he, fun n σ H w ρ b ρ' Q ok hm k => ?_⟩
  obtain ⟨s, c, e1, hc, hb⟩ := mTest_ok hm
  refine g n σ H w ρ s _ _ ok e1 fun v H1 w1 ok1 st1 sa => ?_
  obtain ⟨o, _, h1⟩ := sa.cell ok1 hc
  exact ⟨b, truth_ok h1 hb, k H1 w1 ok1 st1⟩
/-- a comparison -/
theorem st_cmp {op : CmpOp} {f : List Cell → R Cell} {r : R2} {a b : Expr} {ma mb : AE} {pos : Pos} (ho : OpR X (compareOp op) r) (hs : CallS X (r2L r) f) (hm : behindInMarks op b = false) (ha : SA X a ma) (hb : SA X b mb)
    (hB : ∀ cs c, f cs = .ok c → ∃ k, c = Cell.fz (.bl k)) : ST X (.Compare a [op] [b] pos) (mTest (mPrim f [ma, mb])) := by
  obtain ⟨t, p, h⟩ := ha.ex
  obtain ⟨u, q, g⟩ := hb.ex
  refine ⟨_, pt_cmpR ho p q hm, fun n σ H w ρ bb ρ' Q ok hm k => ?_⟩
  obtain ⟨s, c0, e0, hc0, hb0⟩ := mTest_ok hm
  obtain ⟨ss, cs, c, e1, e2, e3, rfl⟩ := mPrim_ok e0
  cases hc0
  obtain ⟨kk, rfl⟩ := hB _ _ e3
  cases hb0
  obtain ⟨⟨s1, ρ1⟩, f1, e1⟩ := R.of_bind e1
  obtain ⟨⟨ss2, ρ2⟩, f2, e1⟩ := R.of_bind e1
  cases e1
  obtain ⟨⟨s2, ρ3⟩, f3, f2⟩ := R.of_bind f2
  cases f2
  refine h n σ H w ρ s1 ρ1 _ ok f1 fun v H1 w1 ok1 st1 q1 => ?_
  refine g (n + 1) σ H1 w1 ρ1 s2 ρ' _ ok1 f3 fun v2 H2 w2 ok2 st2 q2 => ?_
  refine hs n H2 w2 σ ρ' cs [v, v2] _ _ ok2 (SrcsAt.cells (n := n) (ss := [s1, s2]) (vs := [v, v2]) ok2 ⟨q1.step st2 (Nat.lt_succ_self n), q2, trivial⟩ e2) e3 fun v3 H3 w3 ok3 st3 q3 => ?_
  exact ⟨_, ow_bl q3, k H3 w3 ok3 ((st1.trans (st2.mono (Nat.le_succ n))).trans st3)⟩
theorem bl_I2 {g : Int → Int → R D} (h : ∀ i j d, g i j = .ok d → ∃ k, d = .bl k) : ∀ cs c, fI2 g cs = .ok c → ∃ k, c = Cell.fz (.bl k) := fun cs c e => by
  unfold fI2 at e
  split at e
  · obtain ⟨d, e1, e⟩ := R.of_bind e
    cases e
    obtain ⟨k, rfl⟩ := h _ _ _ e1
    exact ⟨k, rfl⟩
  · cases e
theorem bl_cmp {p : Int → Int → Bool} : ∀ cs c, fCmp p cs = .ok c → ∃ k, c = Cell.fz (.bl k) := bl_I2 fun i j d e => by cases e; exact ⟨_, rfl⟩
theorem bl_eq : ∀ cs c, fEq cs = .ok c → ∃ k, c = Cell.fz (.bl k) := fun cs c e => by
  unfold fEq at e
  split at e
  · split at e
    · cases e; exact ⟨_, rfl⟩
    · cases e
  · cases e
theorem bl_ne : ∀ cs c, fNe cs = .ok c → ∃ k, c = Cell.fz (.bl k) := fun cs c e => by
  unfold fNe at e
  split at e
  · split at e
    · cases e; exact ⟨_, rfl⟩
    · cases e
  · cases e
theorem bl_in {neg : Bool} : ∀ cs c, fIn neg cs = .ok c → ∃ k, c = Cell.fz (.bl k) := fun cs c e => by
  unfold fIn at e
  split at e
  · obtain ⟨b, e1, e⟩ := R.of_bind e
    cases e
    exact ⟨_, rfl⟩
  · cases e
theorem bl_notN : ∀ cs c, fNotN cs = .ok c → ∃ k, c = Cell.fz (.bl k) := fun cs c e => by
  unfold fNotN at e
  split at e
  · cases e; exact ⟨_, rfl⟩
  · cases e
def mNotT (m : MT) : MT := fun ρ => do
  let (b, ρ1) ← m ρ
  R.ok (!b, ρ1)
theorem st_not {e : Expr} {m : MT} {pos : Pos} (h : ST X e m) : ST X (.UnaryOp .Not e pos) (mNotT m) := by
  obtain ⟨t, p, g⟩ := h.ex
  refine ⟨_, pt_not p, fun n σ H w ρ b ρ' Q ok hm k => ?_⟩
  obtain ⟨⟨c, ρ1⟩, e1, hm⟩ := R.of_bind hm
  cases hm
  exact g n σ H w ρ c _ _ ok e1 fun H1 w1 ok1 st1 => k H1 w1 ok1 st1
def mAndT (a b : MT) : MT := fun ρ => do
  let (c, ρ1) ← a ρ
  if c then b ρ1 else R.ok (false, ρ1)
def mOrT (a b : MT) : MT := fun ρ => do
  let (c, ρ1) ← a ρ
  if c then R.ok (true, ρ1) else b ρ1
theorem sw_and1 {a : Expr} {m : MT} {pos : Pos} (h : ST X a m) : SW X (.BoolOp .And [a] pos) m := by
  obtain ⟨t, p, g⟩ := h.ex
  exact ⟨t, pw_and1 p, g⟩
theorem sw_or1 {a : Expr} {m : MT} {pos : Pos} (h : ST X a m) : SW X (.BoolOp .Or [a] pos) m := by
  obtain ⟨t, p, g⟩ := h.ex
  exact ⟨t, pw_or1 p, g⟩
theorem sw_and {a b : Expr} {rest : List Expr} {m m2 : MT} {pos : Pos} (h : ST X a m) (h2 : SW X (.BoolOp .And (b :: rest) pos) m2) : SW X (.BoolOp .And (a :: b :: rest) pos) (mAndT m m2) := by
  obtain ⟨t, p, g⟩ := h.ex
  obtain ⟨t2, p2, g2⟩ := h2.ex
  refine ⟨_, pw_and p p2, fun n σ H w ρ b ρ' Q ok hm k => ?_⟩
  obtain ⟨⟨c, ρ1⟩, e1, hm⟩ := R.of_bind hm
  refine g n σ H w ρ c _ _ ok e1 fun H1 w1 ok1 st1 => ?_
  cases c with
  | true => exact iteT (g2 n σ H1 w1 ρ1 b ρ' Q ok1 hm fun H2 w2 ok2 st2 => k H2 w2 ok2 (st1.trans st2))
  | false =>
    cases hm
    exact iteF (k H1 w1 ok1 st1)
theorem sw_or {a b : Expr} {rest : List Expr} {m m2 : MT} {pos : Pos} (h : ST X a m) (h2 : SW X (.BoolOp .Or (b :: rest) pos) m2) : SW X (.BoolOp .Or (a :: b :: rest) pos) (mOrT m m2) := by
  obtain ⟨t, p, g⟩ := h.ex
  obtain ⟨t2, p2, g2⟩ := h2.ex
  refine ⟨_, pw_or p p2, fun n σ H w ρ b ρ' Q ok hm k => ?_⟩
  obtain ⟨⟨c, ρ1⟩, e1, hm⟩ := R.of_bind hm
  refine g n σ H w ρ c _ _ ok e1 fun H1 w1 ok1 st1 => ?_
  cases c with
  | false => exact iteF (g2 n σ H1 w1 ρ1 b ρ' Q ok1 hm fun H2 w2 ok2 st2 => k H2 w2 ok2 (st1.trans st2))
  | true =>
    cases hm
    exact iteT (k H1 w1 ok1 st1)
/-! ### and, or, not, if as values -/
def mNotV (a : AE) : AE := fun ρ => do
  let (b, ρ1) ← mTest a ρ
  R.ok (.v (Cell.fz (.bl (!b))), ρ1)
theorem sa_not {e : Expr} {m : AE} {pos : Pos} (h : SA X e m) : SA X (.UnaryOp .Not e pos) (mNotV m) := by
  obtain ⟨t, p, g⟩ := h.ex
  refine ⟨_, pe_notT p, fun n σ H w ρ s ρ' Q ok hm k => ?_⟩
  obtain ⟨⟨b, ρ1⟩, e1, hm⟩ := R.of_bind hm
  cases hm
  obtain ⟨s, c, e1, hc, hb⟩ := mTest_ok e1
  refine g n σ H w ρ s _ _ ok e1 fun v H1 w1 ok1 st1 sa => ?_
  obtain ⟨o, _, h1⟩ := sa.cell ok1 hc
  exact ⟨b, truth_ok h1 hb, k _ H1 w1 ok1 st1 (.fz (.bl _))⟩
/-- and, or of bools: the last one may be anything -/
def mAndV (a b : AE) : AE := fun ρ => do
  let (s, ρ1) ← a ρ
  match s.cell ρ1 with
  | some ⟨.bl c, _⟩ => if c then b ρ1 else R.ok (.v (Cell.fz (.bl false)), ρ1)
  | _ => R.bad
def mOrV (a b : AE) : AE := fun ρ => do
  let (s, ρ1) ← a ρ
  match s.cell ρ1 with
  | some ⟨.bl c, _⟩ => if c then R.ok (.v (Cell.fz (.bl true)), ρ1) else b ρ1
  | _ => R.bad
theorem sa_one {op : BoolOp} {a : Expr} {m : AE} {pos : Pos} (h : SA X a m) : SA X (.BoolOp op [a] pos) m := by
  obtain ⟨t, p, g⟩ := h.ex
  exact ⟨t, pe_one p, g⟩
theorem sa_and {a b : Expr} {rest : List Expr} {m m2 : AE} {pos : Pos} (h : SA X a m) (h2 : SA X (.BoolOp .And (b :: rest) pos) m2) : SA X (.BoolOp .And (a :: b :: rest) pos) (mAndV m m2) := by
  obtain ⟨t, p, g⟩ := h.ex
  obtain ⟨t2, p2, g2⟩ := h2.ex
  refine ⟨_, pe_and p p2, fun n σ H w ρ s ρ' Q ok hm k => ?_⟩
  obtain ⟨⟨s1, ρ1⟩, e1, hm⟩ := R.of_bind hm
  dsimp only at hm
  split at hm
  · rename_i c _ hc
    refine g n σ H w ρ s1 _ _ ok e1 fun v H1 w1 ok1 st1 sa => ?_
    obtain ⟨o, _, h1⟩ := sa.cell ok1 hc
    refine ⟨c, ow_bl h1, ?_⟩
    cases c with
    | true => exact iteT (g2 n σ H1 w1 ρ1 s ρ' Q ok1 hm fun v H2 w2 ok2 st2 => k v H2 w2 ok2 (st1.trans st2))
    | false =>
      cases hm
      exact iteF (k _ H1 w1 ok1 st1 (.fz (.bl _)))
  · cases hm
def mIfE (t : MT) (a b : AE) : AE := fun ρ => do
  let (c, ρ1) ← t ρ
  if c then a ρ1 else b ρ1
/-- a op1 b op2 c -/
def mChain (f g : List Cell → R Cell) (a b c : AE) : AE := fun ρ => do
  let (s1, ρ1) ← a ρ
  let (s2, ρ2) ← b ρ1
  match s1.cell ρ2, s2.cell ρ2 with
  | some c1, some c2 => do
    let r ← f [c1, c2]
    match r with
    | ⟨.bl true, _⟩ => do
      let (s3, ρ3) ← c ρ2
      match s2.cell ρ3, s3.cell ρ3 with
      | some c2, some c3 => do
        let r ← g [c2, c3]
        R.ok (.v r, ρ3)
      | _, _ => R.bad
    | ⟨.bl false, _⟩ => R.ok (.v (Cell.fz (.bl false)), ρ2)
    | _ => R.bad
  | _, _ => R.bad
theorem chain_core {f f' : List Cell → R Cell} {r r' : R2} {a b c : Expr} {ma mb mc : AE} (hs : CallS X (r2L r) f) (hs' : CallS X (r2L r') f') (ha : SA X a ma) (hb : SA X b mb) (hc : SA X c mc) :
    ∃ ta tb tc, PE X a ta ∧ PE X b tb ∧ PE X c tc ∧ ∀ (n : Nat) (σ : L2.St) (H : Hp) (w : OM) (ρ : Env) (s : Src) (ρ' : Env) (Q : VK), Ok X.K H w σ ρ → mChain f f' ma mb mc ρ = .ok (s, ρ') →
      (∀ v H' w', Ok X.K H' w' σ ρ' → Step n H w H' w' → SrcAt X.K H' w' σ n s v → Q v H') → tChain r r' ta tb tc σ H Q := by
  obtain ⟨ta, pa, ga⟩ := ha.ex
  obtain ⟨tb, pb, gb⟩ := hb.ex
  obtain ⟨tc, pc, gc⟩ := hc.ex
  refine ⟨ta, tb, tc, pa, pb, pc, fun n σ H w ρ s ρ' Q ok hm k => ?_⟩
  obtain ⟨⟨s1, ρ1⟩, e1, hm⟩ := R.of_bind hm
  obtain ⟨⟨s2, ρ2⟩, e2, hm⟩ := R.of_bind hm
  dsimp only at hm e2
  split at hm
  · rename_i c1 c2 h1 h2
    obtain ⟨r0, e3, hm⟩ := R.of_bind hm
    refine ga n σ H w ρ s1 _ _ ok e1 fun v1 H1 w1 ok1 st1 a1 => ?_
    refine gb (n + 1) σ H1 w1 ρ1 s2 _ _ ok1 e2 fun v2 H2 w2 ok2 st2 a2 => ?_
    have st12 := st1.trans (st2.mono (Nat.le_succ n))
    refine hs (n + 2) H2 w2 σ ρ2 [c1, c2] [v1, v2] r0 _ ok2 (SrcsAt.cells (n := n) (ss := [s1, s2]) (vs := [v1, v2]) ok2 ⟨a1.step st2 (Nat.lt_succ_self n), a2, trivial⟩ (by show (match s1.cell ρ2, cells ρ2 [s2] with | some c, some cs => some (c :: cs) | _, _ => none) = _; rw [h1]; show (match some c1, (match s2.cell ρ2, cells ρ2 [] with | some c, some cs => some (c :: cs) | _, _ => none) with | some c, some cs => some (c :: cs) | _, _ => none) = _; rw [h2]; rfl)) e3 fun v3 H3 w3 ok3 st3 q3 => ?_
    split at hm
    · refine ⟨true, ow_bl q3, iteT ?_⟩
      obtain ⟨⟨s3, ρ3⟩, e4, hm⟩ := R.of_bind hm
      dsimp only at hm
      split at hm
      · rename_i c2' c3 h3 h4
        obtain ⟨r1, e5, hm⟩ := R.of_bind hm
        cases hm
        refine gc (n + 2) σ H3 w3 ρ2 s3 _ _ ok3 e4 fun v4 H4 w4 ok4 st4 a4 => ?_
        have a2' : SrcAt X.K H4 w4 σ (n + 1) s2 v2 := (a2.step st3 (by omega)).step st4 (by omega)
        refine hs' n H4 w4 σ _ [c2', c3] [v2, v4] r1 Q ok4 ?_ e5 fun v5 H5 w5 ok5 st5 q5 => ?_
        · exact SrcsAt.cells (n := n + 1) (ss := [s2, s3]) (vs := [v2, v4]) ok4 ⟨a2', a4, trivial⟩ (by show (match s2.cell _, cells _ [s3] with | some c, some cs => some (c :: cs) | _, _ => none) = _; rw [h3]; show (match some c2', (match s3.cell _, cells _ [] with | some c, some cs => some (c :: cs) | _, _ => none) with | some c, some cs => some (c :: cs) | _, _ => none) = _; rw [h4]; rfl)
        · exact k v5 H5 w5 ok5 (((st12.trans (st3.mono (by omega))).trans (st4.mono (by omega))).trans st5) q5
      · cases hm
    · cases hm
      exact ⟨false, ow_bl q3, iteF (k _ H3 w3 ok3 (st12.trans (st3.mono (by omega))) (.fz (.bl _)))⟩
    · cases hm
  · cases hm
theorem st_chain {op op' : CmpOp} {f f' : List Cell → R Cell} {r r' : R2} {a b c : Expr} {ma mb mc : AE} {pos : Pos} (ho : OpR X (compareOp op) r) (ho' : OpR X (compareOp op') r') (hs : CallS X (r2L r) f) (hs' : CallS X (r2L r') f') (ha : SA X a ma) (hb : SA X b mb) (hc : SA X c mc)
    (hB : ∀ cs c, f' cs = .ok c → ∃ k, c = Cell.fz (.bl k)) (hm : lastMarks [op, op'] [b, c] = false := by with_unfolding_all rfl) : ST X (.Compare a [op, op'] [b, c] pos) (mTest (mChain f f' ma mb mc)) := by
  obtain ⟨ta, tb, tc, pa, pb, pc, g⟩ := chain_core hs hs' ha hb hc
  refine ⟨_, pt_chain ho ho' pa pb pc hm, fun n σ H w ρ bb ρ' Q ok hm k => ?_⟩
  obtain ⟨s, c0, e0, hc0, hb0⟩ := mTest_ok hm
  refine g n σ H w ρ s ρ' _ ok e0 fun v H1 w1 ok1 st1 sa => ?_
  have isB : ∃ k, s = .v (Cell.fz (.bl k)) := by
    obtain ⟨⟨s1, ρ1⟩, e1, e0⟩ := R.of_bind e0
    obtain ⟨⟨s2, ρ2⟩, e2, e0⟩ := R.of_bind e0
    dsimp only at e0
    split at e0
    · obtain ⟨r0, e3, e0⟩ := R.of_bind e0
      split at e0
      · obtain ⟨⟨s3, ρ3⟩, e4, e0⟩ := R.of_bind e0
        dsimp only at e0
        split at e0
        · obtain ⟨r1, e5, e0⟩ := R.of_bind e0
          cases e0
          obtain ⟨k, rfl⟩ := hB _ _ e5
          exact ⟨k, rfl⟩
        · cases e0
      · cases e0; exact ⟨false, rfl⟩
      · cases e0
    · cases e0
  obtain ⟨kk, rfl⟩ := isB
  cases hc0
  cases hb0
  have sa : Ow X.K H1 w1 (.tm n) 0 (.bl bb) v := sa
  exact ⟨_, ow_bl sa, k H1 w1 ok1 st1⟩
end
end Z

/-! Z: statements, loops. -/
namespace Z
open PySem PySem.Spec PyProof.Rows L2

inductive Fl where
  | next | brk | cont | ret (c : Cell)
/-- L: the slots that may not be bound anew -/
abbrev MS := List Nat → Env → R (Fl × Env)
def FlP (K : PySem.W.Frag) (D : Ends) (n : Nat) (H : Hp) (w : OM) (σ : L2.St) : Fl → Prop
  | .next => D.nx σ H
  | .brk => D.bk σ H
  | .cont => D.ct σ H
  | .ret c => ∀ v, Ow K H w (.tm n) c.k c.d v → D.rt v H
structure SS (X : Cx) (s : Stmt) (m : MS) : Prop where
  ex : ∃ t, PS X s t ∧ ∀ (n : Nat) (σ : L2.St) (H : Hp) (w : OM) (ρ : Env) (L : List Nat) (fl : Fl) (ρ' : Env) (D : Ends), Ok X.K H w σ ρ → m L ρ = .ok (fl, ρ') →
    (∀ σ' H' w', Ok X.K H' w' σ' ρ' → Step n H w H' w' → (∀ i ∈ L, σ'[i]? = σ[i]?) → FlP X.K D n H' w' σ' fl) → t D σ H
structure SSs (X : Cx) (s : List Stmt) (m : MS) : Prop where
  ex : ∃ t, PSs X s t ∧ ∀ (n : Nat) (σ : L2.St) (H : Hp) (w : OM) (ρ : Env) (L : List Nat) (fl : Fl) (ρ' : Env) (D : Ends), Ok X.K H w σ ρ → m L ρ = .ok (fl, ρ') →
    (∀ σ' H' w', Ok X.K H' w' σ' ρ' → Step n H w H' w' → (∀ i ∈ L, σ'[i]? = σ[i]?) → FlP X.K D n H' w' σ' fl) → t D σ H

/-! ### a value is taken -/
def take (L : List Nat) : Src → Env → R (Cell × Env)
  | .v c, ρ => .ok (c, ρ)
  | .s i, ρ => match ρ.get i with
    | some ⟨d, 0⟩ => .ok (Cell.fz d, ρ)
    | some ⟨d, k + 1⟩ => if L.contains i then .ok (Cell.fz d, ρ.set i (some ⟨d, 0⟩)) else .ok (⟨d, k + 1⟩, ρ.set i none)
    | none => .bad
section
variable {K : PySem.W.Frag} {H : Hp} {w : OM} {σ : L2.St} {ρ ρ' : Env} {n : Nat}
theorem Ok.drop {i : Nat} (ok : Ok K H w σ ρ) : Ok K H w σ (ρ.set i none) := by
  refine ⟨by rw [Env.length_set]; exact ok.len, fun j x q => ?_, ok.live⟩
  rcases Env.get_set q with ⟨_, z⟩ | ⟨_, z⟩
  · cases z
  · exact ok.slot j x z
theorem take_ok {L : List Nat} {s : Src} {v : V} {c : Cell} (ok : Ok K H w σ ρ) (h : SrcAt K H w σ n s v) (e : take L s ρ = .ok (c, ρ')) :
    ∃ w', Ok K H w' σ ρ' ∧ (∀ m, Step m H w H w') ∧ Ow K H w' (.tm n) c.k c.d v := by
  cases s with
  | v c' =>
    cases e
    exact ⟨w, ok, fun _ => Step.refl, h⟩
  | s i =>
    unfold take at e
    dsimp only at e
    have h : σ[i]? = some (some v) := h
    split at e
    · rename_i d hc
      cases e
      obtain ⟨u, e1, q⟩ := ok.slot i _ hc
      rw [h] at e1
      cases e1
      refine ⟨w, ok, fun _ => Step.refl, ?_⟩
      cases q with
      | fz q => exact .fz q
    · rename_i d k hc
      obtain ⟨u, e1, q⟩ := ok.slot i _ hc
      rw [h] at e1
      cases e1
      split at e
      · cases e
        exact ⟨w.re (.sl i) .no, ok.freeze hc, fun m => Step.re not_fixed_sl, .fz (q.freeze (by intro z; cases z))⟩
      · cases e
        refine ⟨w.re (.sl i) (.tm n), ?_, fun m => Step.re not_fixed_sl, q.re (by intro z; cases z)⟩
        refine ⟨by rw [Env.length_set]; exact ok.len, fun j x q => ?_, fun a h => ?_⟩
        · rcases Env.get_set q with ⟨_, z⟩ | ⟨hj, z⟩
          · cases z
          · obtain ⟨v, e1, h⟩ := ok.slot j x z
            exact ⟨v, e1, h.other (by intro z; cases z) (by intro z; cases z; exact hj rfl)⟩
        · by_cases z : w a = .sl i
          · exact ok.live a (by rw [z]; intro q; cases q)
          · rw [OM.re_ne z] at h; exact ok.live a h
    · cases e
/-- a value is bound to a slot -/
theorem Ok.store {i : Nat} {c : Cell} {v : V} (ok : Ok K H w σ ρ) (h : Ow K H w (.tm n) c.k c.d v) : Ok K H (w.re (.tm n) (.sl i)) (σ.set i (some v)) (ρ.set i (some c)) := by
  refine ⟨by rw [Env.length_set, List.length_set]; exact ok.len, fun j x q => ?_, fun a h => ?_⟩
  · rcases Env.get_set q with ⟨ej, z⟩ | ⟨hj, z⟩
    · subst ej
      cases z
      have hl : j < σ.length := by
        have := Env.get_lt q
        rw [Env.length_set] at this
        rw [ok.len]; exact this
      exact ⟨v, List.getElem?_set_self hl, h.re (by intro z; cases z)⟩
    · obtain ⟨u, e1, q⟩ := ok.slot j x z
      exact ⟨u, by rw [List.getElem?_set_ne (Ne.symm hj)]; exact e1, q.other (by intro z; cases z) (by intro z; cases z)⟩
  · by_cases z : w a = .tm n
    · exact ok.live a (by rw [z]; intro q; cases q)
    · rw [OM.re_ne z] at h; exact ok.live a h
theorem Ok.storeFz {i : Nat} {d : D} {v : V} (ok : Ok K H w σ ρ) (h : Fz K H w d v) : Ok K H w (σ.set i (some v)) (ρ.set i (some (Cell.fz d))) := by
  refine ⟨by rw [Env.length_set, List.length_set]; exact ok.len, fun j x q => ?_, ok.live⟩
  rcases Env.get_set q with ⟨ej, z⟩ | ⟨hj, z⟩
  · subst ej
    cases z
    have hl : j < σ.length := by
      have := Env.get_lt q
      rw [Env.length_set] at this
      rw [ok.len]; exact this
    exact ⟨v, List.getElem?_set_self hl, .fz h⟩
  · obtain ⟨u, e1, q⟩ := ok.slot j x z
    exact ⟨u, by rw [List.getElem?_set_ne (Ne.symm hj)]; exact e1, q⟩
theorem set_keep {σ : L2.St} {L : List Nat} {i : Nat} {x : Option V} (h : L.contains i = false) : ∀ j ∈ L, (σ.set i x)[j]? = σ[j]? := fun j hj => by
  refine List.getElem?_set_ne ?_
  intro e
  subst e
  have : L.contains i = true := by simpa using hj
  rw [h] at this
  cases this
end

section
variable {X : Cx} {pos : Pos}
/-! ### small statements -/
def mNext : MS := fun _ ρ => .ok (.next, ρ)
def mBrk : MS := fun _ ρ => .ok (.brk, ρ)
def mCont : MS := fun _ ρ => .ok (.cont, ρ)
theorem sss_nil : SSs X [] mNext := ⟨_, pss_nil, fun n σ H w ρ L fl ρ' D ok hm k => by
  cases hm
  exact k σ H w ok Step.refl fun _ _ => rfl⟩
def mSeq (a b : MS) : MS := fun L ρ => do
  let (fl, ρ1) ← a L ρ
  match fl with
  | .next => b L ρ1
  | f => R.ok (f, ρ1)
theorem sss_cons {s : Stmt} {rest : List Stmt} {a b : MS} (ha : SS X s a) (hb : SSs X rest b) : SSs X (s :: rest) (mSeq a b) := by
  obtain ⟨t, p, g⟩ := ha.ex
  obtain ⟨u, q, g2⟩ := hb.ex
  refine ⟨_, pss_cons p q, fun n σ H w ρ L fl ρ' D ok hm k => ?_⟩
  obtain ⟨⟨f, ρ1⟩, e1, hm⟩ := R.of_bind hm
  refine g n σ H w ρ L f ρ1 _ ok e1 fun σ1 H1 w1 ok1 st1 l1 => ?_
  cases f with
  | next =>
    refine g2 n σ1 H1 w1 ρ1 L fl ρ' D ok1 hm fun σ2 H2 w2 ok2 st2 l2 => ?_
    exact k σ2 H2 w2 ok2 (st1.trans st2) fun i hi => (l2 i hi).trans (l1 i hi)
  | brk => cases hm; exact k σ1 H1 w1 ok1 st1 l1
  | cont => cases hm; exact k σ1 H1 w1 ok1 st1 l1
  | ret c => cases hm; exact k σ1 H1 w1 ok1 st1 l1
def mExpr (m : AE) : MS := fun _ ρ => do
  let (_, ρ1) ← m ρ
  R.ok (.next, ρ1)
theorem ss_expr {e : Expr} {m : AE} (h : SA X e m) (hs : swapsWith e none pos.line X.env = pure false := by rfl) : SS X (.Expr e pos) (mExpr m) := by
  obtain ⟨t, p, g⟩ := h.ex
  refine ⟨_, ps_expr p hs, fun n σ H w ρ L fl ρ' D ok hm k => ?_⟩
  obtain ⟨⟨s, ρ1⟩, e1, hm⟩ := R.of_bind hm
  cases hm
  exact g n σ H w ρ s _ _ ok e1 fun v H1 w1 ok1 st1 _ => k σ H1 w1 ok1 st1 fun _ _ => rfl
def mRet (m : AE) : MS := fun L ρ => do
  let (s, ρ1) ← m ρ
  let (c, ρ2) ← take L s ρ1
  R.ok (.ret c, ρ2)
theorem ss_ret {e : Expr} {m : AE} (h : SA X e m) : SS X (.Return (some e) pos) (mRet m) := by
  obtain ⟨t, p, g⟩ := h.ex
  refine ⟨_, ps_ret p, fun n σ H w ρ L fl ρ' D ok hm k => ?_⟩
  obtain ⟨⟨s, ρ1⟩, e1, hm⟩ := R.of_bind hm
  obtain ⟨⟨c, ρ2⟩, e2, hm⟩ := R.of_bind hm
  cases hm
  refine g n σ H w ρ s _ _ ok e1 fun v H1 w1 ok1 st1 sa => ?_
  obtain ⟨w2, ok2, st2, ow⟩ := take_ok ok1 sa e2
  exact k σ H1 w2 ok2 (st1.trans (st2 n)) (fun _ _ => rfl) v ow
def mRetN : MS := fun _ ρ => .ok (.ret (Cell.fz .non), ρ)
def mSet (i : Nat) (m : AE) : MS := fun L ρ => do
  let (s, ρ1) ← m ρ
  let (c, ρ2) ← take L s ρ1
  if L.contains i then R.bad else R.ok (.next, ρ2.set i (some c))
theorem mSet_core {i : Nat} {m : AE} {t : TE} (g : ∀ (n : Nat) (σ : L2.St) (H : Hp) (w : OM) (ρ : Env) (s : Src) (ρ' : Env) (Q : VK), Ok X.K H w σ ρ → m ρ = .ok (s, ρ') →
    (∀ v H' w', Ok X.K H' w' σ ρ' → Step n H w H' w' → SrcAt X.K H' w' σ n s v → Q v H') → t σ H Q) :
    ∀ (n : Nat) (σ : L2.St) (H : Hp) (w : OM) (ρ : Env) (L : List Nat) (fl : Fl) (ρ' : Env) (D : Ends), Ok X.K H w σ ρ → mSet i m L ρ = .ok (fl, ρ') →
    (∀ σ' H' w', Ok X.K H' w' σ' ρ' → Step n H w H' w' → (∀ i ∈ L, σ'[i]? = σ[i]?) → FlP X.K D n H' w' σ' fl) → tAsg t (gName i) D σ H := by
  intro n σ H w ρ L fl ρ' D ok hm k
  obtain ⟨⟨s, ρ1⟩, e1, hm⟩ := R.of_bind hm
  obtain ⟨⟨c, ρ2⟩, e2, hm⟩ := R.of_bind hm
  dsimp only at hm
  split at hm
  · cases hm
  · rename_i hL
    cases hm
    refine g n σ H w ρ s _ _ ok e1 fun v H1 w1 ok1 st1 sa => ?_
    obtain ⟨w2, ok2, st2, ow⟩ := take_ok ok1 sa e2
    exact k _ H1 _ (ok2.store (i := i) ow) ((st1.trans (st2 n)).trans (Step.re not_fixed_tm)) (set_keep (by simpa using hL))
theorem ss_set {i : Nat} {x : Str} {e : Expr} {m : AE} {pos' : Pos} (h : SA X e m) (hN : X.N.Nodup) (hi : X.N[i]? = some x := by rfl) (hx : Loc X.env.scope x := by first | exact Or.inl rfl | exact Or.inr rfl)
    (hs : swapsWith e (some (.Name x pos')) pos.line X.env = pure false := by rfl) (hf : X.fn x = true ∨ X.env.scope.names.lookup x = some .local := by first | exact .inl rfl | exact .inr rfl) : SS X (.Assign [.Name x pos'] e pos) (mSet i m) := by
  obtain ⟨t, p, g⟩ := h.ex
  exact ⟨_, ps_set hN hi hx p hs hf, mSet_core g⟩
def mIf (t : MT) (a b : MS) : MS := fun L ρ => do
  let (c, ρ1) ← t ρ
  if c then a L ρ1 else b L ρ1
theorem ss_if {c : Expr} {a b : List Stmt} {mc : MT} {ma mb : MS} (hc : ST X c mc) (ha : SSs X a ma) (hb : SSs X b mb) : SS X (.If c a b pos) (mIf mc ma mb) := by
  obtain ⟨t, p, g⟩ := hc.ex
  obtain ⟨ta, pa, ga⟩ := ha.ex
  obtain ⟨tb, pb, gb⟩ := hb.ex
  refine ⟨_, ps_if p pa pb, fun n σ H w ρ L fl ρ' D ok hm k => ?_⟩
  obtain ⟨⟨b, ρ1⟩, e1, hm⟩ := R.of_bind hm
  refine g n σ H w ρ b _ _ ok e1 fun H1 w1 ok1 st1 => ?_
  cases b with
  | true => exact iteT (ga n σ H1 w1 ρ1 L fl ρ' D ok1 hm fun σ2 H2 w2 ok2 st2 l2 => k σ2 H2 w2 ok2 (st1.trans st2) l2)
  | false => exact iteF (gb n σ H1 w1 ρ1 L fl ρ' D ok1 hm fun σ2 H2 w2 ok2 st2 l2 => k σ2 H2 w2 ok2 (st1.trans st2) l2)

/-! ### targets -/
abbrev MG := D → List Nat → Env → R Env
structure SG (X : Cx) (tg : Expr) (sl : List Nat) (m : MG) : Prop where
  ex : ∃ g, PG X tg g ∧ ∀ (σ : L2.St) (H : Hp) (w : OM) (ρ : Env) (L : List Nat) (d : D) (v : V) (ρ' : Env) (Q : L2.St → Hp → Prop), Ok X.K H w σ ρ → Fz X.K H w d v → m d L ρ = .ok ρ' →
    (∀ σ', Ok X.K H w σ' ρ' → σ'.length = σ.length → (∀ i, i ∉ sl → σ'[i]? = σ[i]?) → (∀ i ∈ L, σ'[i]? = σ[i]?) → Q σ' H) → g v σ H Q
structure SGs (X : Cx) (tgs : List Expr) (sl : List Nat) (m : List D → List Nat → Env → R Env) : Prop where
  ex : ∃ g, PGs X tgs g ∧ ∀ (σ : L2.St) (H : Hp) (w : OM) (ρ : Env) (L : List Nat) (ds : List D) (vs : List V) (ρ' : Env) (Q : L2.St → Hp → Prop), Ok X.K H w σ ρ → FzL X.K H w ds vs → m ds L ρ = .ok ρ' →
    (∀ σ', Ok X.K H w σ' ρ' → σ'.length = σ.length → (∀ i, i ∉ sl → σ'[i]? = σ[i]?) → (∀ i ∈ L, σ'[i]? = σ[i]?) → Q σ' H) → g vs σ H Q
def gN (i : Nat) : MG := fun d L ρ => if L.contains i then .bad else .ok (ρ.set i (some (Cell.fz d)))
theorem sg_name {i : Nat} {x : Str} (hN : X.N.Nodup) (hi : X.N[i]? = some x := by rfl) (hx : Loc X.env.scope x := by first | exact Or.inl rfl | exact Or.inr rfl)
    (hf : X.fn x = true ∨ X.env.scope.names.lookup x = some .local := by first | exact .inl rfl | exact .inr rfl) : SG X (.Name x pos) [i] (gN i) := by
  refine ⟨_, pg_name hN hi hx hf, fun σ H w ρ L d v ρ' Q ok h hm k => ?_⟩
  unfold gN at hm
  split at hm
  · cases hm
  · rename_i hL
    cases hm
    exact k _ (ok.storeFz h) List.length_set (fun j hj => List.getElem?_set_ne (by intro e; exact hj (by simp [e]))) (set_keep (by simpa using hL))
def gsNil : List D → List Nat → Env → R Env := fun ds _ ρ => match ds with
  | [] => .ok ρ
  | _ => .bad
def gsCons (g : MG) (gs : List D → List Nat → Env → R Env) : List D → List Nat → Env → R Env := fun ds L ρ => match ds with
  | d :: r => do
    let ρ1 ← g d L ρ
    gs r L ρ1
  | [] => .bad
theorem sgs_nil : SGs X [] [] gsNil := ⟨_, pgs_nil, fun σ H w ρ L ds vs ρ' Q ok h hm k => by
  cases h with
  | nil => cases hm; exact ⟨rfl, k σ ok rfl (fun _ _ => rfl) fun _ _ => rfl⟩
  | cons _ _ => cases hm⟩
theorem sgs_cons {e : Expr} {es : List Expr} {s1 s2 : List Nat} {g : MG} {gs : List D → List Nat → Env → R Env} (h1 : SG X e s1 g) (h2 : SGs X es s2 gs)
    (hs : (assignEach (e :: es) X.env).map (·.2) = assign e X.env :: (assignEach es X.env).map (·.2) := by rfl) : SGs X (e :: es) (s1 ++ s2) (gsCons g gs) := by
  obtain ⟨t, p, f⟩ := h1.ex
  obtain ⟨u, q, f2⟩ := h2.ex
  refine ⟨_, pgs_cons p q hs, fun σ H w ρ L ds vs ρ' Q ok h hm k => ?_⟩
  cases h with
  | nil => cases hm
  | cons h t =>
    obtain ⟨ρ1, e1, hm⟩ := R.of_bind hm
    refine ⟨_, _, rfl, f σ H w ρ L _ _ _ _ ok h e1 fun σ1 ok1 n1 a1 l1 => ?_⟩
    refine f2 σ1 H w ρ1 L _ _ ρ' _ ok1 t hm fun σ2 ok2 n2 a2 l2 => ?_
    exact k σ2 ok2 (n2.trans n1) (fun i hi => (a2 i fun z => hi (List.mem_append_right _ z)).trans (a1 i fun z => hi (List.mem_append_left _ z))) fun i hi => (l2 i hi).trans (l1 i hi)
def gT (n : Nat) (gs : List D → List Nat → Env → R Env) : MG := fun d L ρ => match d with
  | .tup ds => if ds.length = n then gs ds L ρ else .bad
  | _ => .bad
theorem sg_tup {es : List Expr} {k n : Nat} {sl : List Nat} {gs : List D → List Nat → Env → R Env} (hc : X.calm = true) (h : SGs X es sl gs) (hn : (assignEach es X.env).length = n := by rfl) (hst : (assignEach es X.env).findIdx? (·.1) = none := by rfl) :
    SG X (.Tuple es k pos) sl (gT n gs) := by
  obtain ⟨t, p, f⟩ := h.ex
  refine ⟨_, pg_tup hc p hn hst, fun σ H w ρ L d v ρ' Q ok h hm k => ?_⟩
  unfold gT at hm
  split at hm
  · split at hm
    · rename_i hl
      cases h with
      | tup ta fa => exact ⟨_, _, rfl, ta.sq, by rw [← fa.length]; exact hl, f σ H w ρ L _ _ ρ' Q ok fa hm k⟩
    · cases hm
  · cases hm
/-- target = value, the value frozen -/
def mAsg (g : MG) (m : AE) : MS := fun L ρ => do
  let (s, ρ1) ← m ρ
  let (c, ρ2) ← esc s ρ1
  let ρ3 ← g c.d L ρ2
  R.ok (.next, ρ3)
theorem ss_asg {tg e : Expr} {sl : List Nat} {g : MG} {m : AE} (he : SA X e m) (hg : SG X tg sl g) (hs : swapsWithSole [tg] e pos.line X.env = pure false := by rfl) (hw : swappedStores [tg] e X.env = pure none := by rfl)
    (h1 : (assignEach [tg] X.env).map (·.2) = [assign tg X.env] := by rfl) : SS X (.Assign [tg] e pos) (mAsg g m) := by
  obtain ⟨t, p, f⟩ := he.ex
  obtain ⟨u, q, f2⟩ := hg.ex
  refine ⟨_, ps_asg p q hs hw h1, fun n σ H w ρ L fl ρ' D ok hm k => ?_⟩
  obtain ⟨⟨s, ρ1⟩, e1, hm⟩ := R.of_bind hm
  obtain ⟨⟨c, ρ2⟩, e2, hm⟩ := R.of_bind hm
  obtain ⟨ρ3, e3, hm⟩ := R.of_bind hm
  cases hm
  refine f n σ H w ρ s _ _ ok e1 fun v H1 w1 ok1 st1 sa => ?_
  obtain ⟨w2, ok2, st2, ow, _⟩ := esc_ok ok1 sa e2
  have ok3 : Ok X.K H1 (w2.re (.tm n) .no) σ ρ2 := ok2.re (by intro z; cases z) (by intro i z; cases z)
  refine f2 σ H1 _ ρ2 L c.d v _ _ ok3 (ow.freeze (by intro z; cases z)) e3 fun σ' ok' _ _ l' => ?_
  exact k σ' H1 _ ok' ((st1.trans (st2 n)).trans (Step.re not_fixed_tm)) l'

/-! ### loops -/
structure ItD where
  items : List D
  chk : Option Nat
def chkOk (it : ItD) (ρ : Env) : Bool := match it.chk with
  | none => true
  | some i => match ρ.get i with
    | some c => decide (c.k ≤ 1) && decide (c.d = .lst it.items)
    | none => false
abbrev MI := Env → R (ItD × Env)
/-- what an iterator does, as long as its list stands -/
def ItOk (K : PySem.W.Frag) (J : It) (n : Nat) (it : ItD) (σ : L2.St) (H : Hp) (w : OM) : Prop :=
  ∀ (H2 : Hp) (w2 : OM) (σ2 : L2.St) (ρ2 : Env) (j : Nat), Ok K H2 w2 σ2 ρ2 → Step n H w H2 w2 → (∀ i, it.chk = some i → σ2[i]? = σ[i]?) → chkOk it ρ2 = true →
    (∀ d, it.items[j]? = some d → J.go j H2 ∧ ∀ x H3, J.yld j H2 x H3 → ∃ w3, (∀ (σ3 : L2.St) (ρ3 : Env), Ok K H2 w2 σ3 ρ3 → Ok K H3 w3 σ3 ρ3) ∧ (∀ m, Step m H2 w2 H3 w3) ∧ Fz K H3 w3 d x) ∧ (it.items.length ≤ j → J.stop j H2)
structure SI (X : Cx) (tg iter : Expr) (m : MI) : Prop where
  ex : ∃ wi, PI X tg iter wi ∧ ∀ (n : Nat) (σ : L2.St) (H : Hp) (w : OM) (ρ : Env) (it : ItD) (ρ' : Env) (Q : It → Hp → Prop), Ok X.K H w σ ρ → m ρ = .ok (it, ρ') →
    (∀ J H' w', Ok X.K H' w' σ ρ' → Step n H w H' w' → chkOk it ρ' = true → ItOk X.K J 0 it σ H' w' → Q J H') → wi σ H Q
def loopF (it : ItD) (g : MG) (body : MS) (L : List Nat) : List D → Env → R (Fl × Env)
  | [], ρ => .ok (.next, ρ)
  | d :: r, ρ => do
    let ρ1 ← g d L ρ
    let (fl, ρ2) ← body L ρ1
    match fl with
    | .ret c => R.ok (.ret c, ρ2)
    | .brk => R.ok (.next, ρ2)
    | _ => if chkOk it ρ2 then loopF it g body L r ρ2 else R.bad
def mFor (mi : MI) (g : MG) (body : MS) : MS := fun L ρ => do
  let (it, ρ1) ← mi ρ
  loopF it g body (match it.chk with | some i => i :: L | none => L) it.items ρ1
theorem ss_for {tg iter : Expr} {body : List Stmt} {mi : MI} {g : MG} {mb : MS} {sl : List Nat} (hp : PassesOwn (model X.prog X.w) X.A X.env X.xe) (hc : X.calm = true) (hi : SI X tg iter mi) (hg : SG X tg sl g) (hb : SSs X body mb)
    (hs : ∀ x, foldedSetIterable iter X.env x = pure x := by intro _; rfl) : SS X (.For tg iter body [] pos) (mFor mi g mb) := by
  obtain ⟨wi, p, f⟩ := hi.ex
  obtain ⟨tg', q, f2⟩ := hg.ex
  obtain ⟨tb, r, f3⟩ := hb.ex
  refine ⟨_, ps_for hp hc p q r hs, fun n σ H w ρ L fl ρ' D ok hm k => ?_⟩
  obtain ⟨⟨it, ρ1⟩, e1, hm⟩ := R.of_bind hm
  dsimp only at hm e1
  generalize hL : (match it.chk with | some i => i :: L | none => L) = L' at hm
  have hsub : ∀ i ∈ L, i ∈ L' := fun i hi => by
    subst hL
    cases it.chk with
    | none => exact hi
    | some j => exact List.mem_cons_of_mem _ hi
  have hchk : ∀ i, it.chk = some i → i ∈ L' := fun i hi => by
    subst hL
    rw [hi]
    exact List.mem_cons_self ..
  refine f n σ H w ρ it ρ1 _ ok e1 fun J H1 w1 ok1 st1 c1 io => ?_
  refine ⟨fun i m σ2 H2 => m = it.items.length - i ∧ i ≤ it.items.length ∧ ∃ w2 ρ2, Ok X.K H2 w2 σ2 ρ2 ∧ Step n H1 w1 H2 w2 ∧ (∀ j ∈ L', σ2[j]? = σ[j]?) ∧ chkOk it ρ2 = true ∧ loopF it g mb L' (it.items.drop i) ρ2 = .ok (fl, ρ'),
    ⟨_, rfl, Nat.zero_le _, w1, ρ1, ok1, Step.refl, fun _ _ => rfl, c1, hm⟩, ?_⟩
  rintro i m σ2 H2 ⟨rfl, hle, w2, ρ2, ok2, st2, l2, c2, e2⟩
  obtain ⟨go, stop⟩ := io H2 w2 σ2 ρ2 i ok2 (st2.mono (Nat.zero_le n)) (fun j hj => l2 j (hchk j hj)) c2
  by_cases hlt : i < it.items.length
  · obtain ⟨hgo, hy⟩ := go _ (List.getElem?_eq_getElem hlt)
    refine .inr ⟨hgo, fun σ4 H4 => ∃ w4 ρ4, Ok X.K H4 w4 σ4 ρ4 ∧ Step n H1 w1 H4 w4 ∧ (∀ j ∈ L', σ4[j]? = σ[j]?) ∧ chkOk it ρ4 = true ∧ loopF it g mb L' (it.items.drop (i + 1)) ρ4 = .ok (fl, ρ'), ?_, ?_⟩
    · rintro σ4 H4 h4
      exact ⟨it.items.length - (i + 1), by omega, rfl, hlt, h4⟩
    · intro x H3 y
      obtain ⟨w3, ok3f, st3f, fz⟩ := hy x H3 y
      have ok3 := ok3f σ2 ρ2 ok2
      have st3 := st2.trans (st3f n)
      rw [List.drop_eq_getElem_cons hlt] at e2
      obtain ⟨ρ3, e3, e2⟩ := R.of_bind e2
      obtain ⟨⟨fb, ρ4⟩, e4, e2⟩ := R.of_bind e2
      refine f2 σ2 H3 w3 ρ2 L' _ x ρ3 _ ok3 fz e3 fun σ3 ok3' _ _ l3 => ?_
      refine f3 n σ3 H3 w3 ρ3 L' fb ρ4 _ ok3' e4 fun σ4 H4 w4 ok4 st4 l4 => ?_
      have ll : ∀ j ∈ L', σ4[j]? = σ[j]? := fun j hj => (l4 j hj).trans ((l3 j hj).trans (l2 j hj))
      have st14 := st3.trans st4
      have again : (if chkOk it ρ4 = true then loopF it g mb L' (it.items.drop (i + 1)) ρ4 else R.bad) = .ok (fl, ρ') →
          ∃ w4 ρ4, Ok X.K H4 w4 σ4 ρ4 ∧ Step n H1 w1 H4 w4 ∧ (∀ j ∈ L', σ4[j]? = σ[j]?) ∧ chkOk it ρ4 = true ∧ loopF it g mb L' (it.items.drop (i + 1)) ρ4 = .ok (fl, ρ') := fun z => by
        split at z
        · exact ⟨w4, ρ4, ok4, st14, ll, by assumption, z⟩
        · cases z
      cases fb with
      | next => exact again e2
      | cont => exact again e2
      | brk =>
        cases e2
        exact k σ4 H4 w4 ok4 (st1.trans st14) fun j hj => ll j (hsub j hj)
      | ret c =>
        cases e2
        exact k σ4 H4 w4 ok4 (st1.trans st14) fun j hj => ll j (hsub j hj)
  · have e : i = it.items.length := by omega
    subst e
    rw [List.drop_length] at e2
    cases e2
    exact .inl ⟨stop (Nat.le_refl _), k σ2 H2 w2 ok2 (st1.trans st2) fun j hj => l2 j (hsub j hj)⟩
def loopW (t : MT) (body : MS) (L : List Nat) : Nat → Env → R (Fl × Env)
  | 0, _ => .bad
  | m + 1, ρ => do
    let (b, ρ1) ← t ρ
    if b then do
      let (fl, ρ2) ← body L ρ1
      match fl with
      | .ret c => R.ok (.ret c, ρ2)
      | .brk => R.ok (.next, ρ2)
      | _ => loopW t body L m ρ2
    else R.ok (.next, ρ1)
def mWhile (fuel : Nat) (t : MT) (body : MS) : MS := fun L ρ => loopW t body L fuel ρ
theorem ss_while {c : Expr} {body : List Stmt} {mc : MT} {mb : MS} (fuel : Nat) (hp : PassesOwn (model X.prog X.w) X.A X.env X.xe) (hc : ST X c mc) (hb : SSs X body mb) : SS X (.While c body [] pos) (mWhile fuel mc mb) := by
  obtain ⟨tc, p, f⟩ := hc.ex
  obtain ⟨tb, r, f3⟩ := hb.ex
  refine ⟨_, ps_while hp p r, fun n σ H w ρ L fl ρ' D ok hm k => ?_⟩
  refine ⟨fun m σ2 H2 => ∃ w2 ρ2, Ok X.K H2 w2 σ2 ρ2 ∧ Step n H w H2 w2 ∧ (∀ j ∈ L, σ2[j]? = σ[j]?) ∧ loopW mc mb L m ρ2 = .ok (fl, ρ'), ⟨fuel, w, ρ, ok, Step.refl, fun _ _ => rfl, hm⟩, ?_⟩
  rintro m σ2 H2 ⟨w2, ρ2, ok2, st2, l2, e2⟩
  cases m with
  | zero => cases e2
  | succ m =>
    obtain ⟨⟨b, ρ3⟩, e3, e2⟩ := R.of_bind e2
    refine f n σ2 H2 w2 ρ2 b ρ3 _ ok2 e3 fun H3 w3 ok3 st3 => ?_
    cases b with
    | false =>
      cases e2
      exact iteF (k σ2 H3 w3 ok3 (st2.trans st3) l2)
    | true =>
      obtain ⟨⟨fb, ρ4⟩, e4, e2⟩ := R.of_bind (show (mb L ρ3 >>= _) = _ from e2)
      refine iteT ⟨fun σ4 H4 => ∃ w4 ρ4, Ok X.K H4 w4 σ4 ρ4 ∧ Step n H w H4 w4 ∧ (∀ j ∈ L, σ4[j]? = σ[j]?) ∧ loopW mc mb L m ρ4 = .ok (fl, ρ'), fun σ4 H4 h4 => ⟨m, Nat.lt_succ_self m, h4⟩, ?_⟩
      refine f3 n σ2 H3 w3 ρ3 L fb ρ4 _ ok3 e4 fun σ4 H4 w4 ok4 st4 l4 => ?_
      have ll : ∀ j ∈ L, σ4[j]? = σ[j]? := fun j hj => (l4 j hj).trans (l2 j hj)
      have st14 := (st2.trans st3).trans st4
      cases fb with
      | next => exact ⟨w4, ρ4, ok4, st14, ll, e2⟩
      | cont => exact ⟨w4, ρ4, ok4, st14, ll, e2⟩
      | brk =>
        cases e2
        exact k σ4 H4 w4 ok4 st14 ll
      | ret c =>
        cases e2
        exact k σ4 H4 w4 ok4 st14 ll
end
end Z

/-! Z: what is walked, comprehensions, calls of defs, methods. -/
namespace Z
open PySem PySem.Spec PyProof.Rows L2

/-! ### what is walked -/
section
variable {X : Cx} {tg : Expr}
def iSeq (K : PySem.W.Frag) (tl : TE) : TI := fun σ H R => tl σ H fun x H1 => (∃ a, x = .ref a ∧ (∃ xs, SqL K H1 a xs) ∧ R (Itl K a) H1) ∨ (∃ a, x = .ref a ∧ (∃ xs, SqT K H1 a xs) ∧ R (Itt K a) H1) ∨ ∃ z, x = .str z ∧ R (Its z) H1
theorem pi_seq {l : Expr} {tl : TE} (hl : PE X l tl) : PI X tg l (iSeq X.K tl) := by
  refine ⟨fun pins s σ H R I h => ?_⟩
  refine thn (hl.run pins s σ H _ I h) fun v s1 ⟨x, H1, I1, r1, q1⟩ => ?_
  rcases q1 with ⟨a, e, ⟨xs, hq⟩, q⟩ | ⟨a, e, ⟨xs, hq⟩, q⟩ | ⟨z, e, q⟩
  · subst e
    cases r1
    obtain ⟨its, rv, p, hz⟩ := I1.list hq
    refine wpAny_pyIter_list p.isList ?_
    refine ⟨s1.heap.objs.size, [s1.heap.objs.size], _, _, H1, rfl, I1.kept (t' := s1.toks) fun b o e => Heap.get?_push_of_some _ e, turn_list a _, ⟨_, Heap.get?_push_size _ rfl, rfl, rfl⟩, fun b hb => ?_, q⟩
    have e : b = s1.heap.objs.size := by simpa using hb
    subst e
    exact I1.fpOk (Nat.le_refl _) (I1.hok.fresh (Nat.le_refl _))
  · subst e
    cases r1
    obtain ⟨its, rv, p, hz⟩ := I1.tuple hq
    refine wpAny_pyIter_tuple (show s1.heap.IsTuple a its.toArray from p) ?_
    refine ⟨s1.heap.objs.size, [s1.heap.objs.size], _, _, H1, rfl, I1.kept (t' := s1.toks) fun b o e => Heap.get?_push_of_some _ e, turn_tuple a _, ⟨_, Heap.get?_push_size _ rfl, rfl, rfl⟩, fun b hb => ?_, q⟩
    have e : b = s1.heap.objs.size := by simpa using hb
    subst e
    exact I1.fpOk (Nat.le_refl _) (I1.hok.fresh (Nat.le_refl _))
  · subst e
    obtain ⟨t, rfl⟩ := r1
    cases ha : z.cps.all (· < 128)
    · exact wpAny_pyIter_wide ha (pi_one (tk := s1.toks) I1 _ (turn_str _ z t "str_iterator" (.inr rfl)) ⟨_, Heap.get?_push_size _ rfl, rfl, rfl⟩ q)
    · exact wpAny_pyIter_ascii ha (pi_one (tk := s1.toks) I1 _ (turn_str _ z t "str_ascii_iterator" (.inl rfl)) ⟨_, Heap.get?_push_size _ rfl, rfl, rfl⟩ q)
def itemsOf : D → Option (List D)
  | .tup l => some l
  | .lst l => some l
  | .scr l => some l
  | .str z => some (z.cps.toList.map fun c => .str ⟨#[c]⟩)
  | _ => none
def mItems (a : AE) : MI := fun ρ => do
  let (s, ρ1) ← a ρ
  match s with
  | .v c => match itemsOf c.d with
    | some l => R.ok (⟨l, none⟩, ρ1)
    | none => R.bad
  | .s i => match ρ1.get i with
    | some ⟨d, 0⟩ => match itemsOf d with
      | some l => R.ok (⟨l, none⟩, ρ1)
      | none => R.bad
    | some ⟨.lst l, 1⟩ => R.ok (⟨l, some i⟩, ρ1)
    | some ⟨.lst l, 2⟩ => R.ok (⟨l, none⟩, ρ1.set i (some ⟨.lst l, 0⟩))
    | _ => R.bad
/-- a frozen datum is walked -/
theorem it_frozen {K : PySem.W.Frag} {n : Nat} {σ : L2.St} {H : Hp} {w : OM} {d : D} {v : V} {l : List D} (h : Fz K H w d v) (e : itemsOf d = some l) :
    (∃ a, v = .ref a ∧ (∃ xs, SqL K H a xs) ∧ ItOk K (Itl K a) n ⟨l, none⟩ σ H w) ∨ (∃ a, v = .ref a ∧ (∃ xs, SqT K H a xs) ∧ ItOk K (Itt K a) n ⟨l, none⟩ σ H w) ∨ ∃ z, v = .str z ∧ ItOk K (Its z) n ⟨l, none⟩ σ H w := by
  have onL : ∀ {a : Addr} {vs : List V}, (∀ (H2 : Hp) (w2 : OM), Step n H w H2 w2 → SqL K H2 a vs ∧ FzL K H2 w2 l vs) → ItOk K (Itl K a) n ⟨l, none⟩ σ H w := fun {a vs} st H2 w2 σ2 ρ2 j ok2 st2 _ _ => by
    obtain ⟨hs, fs⟩ := st H2 w2 st2
    refine ⟨fun d hd => ?_, fun hle => ⟨vs, hs, by rw [← fs.length]; exact hle⟩⟩
    obtain ⟨x, hx, fx⟩ := fs.get hd
    refine ⟨⟨vs, x, hs, hx⟩, fun y H3 ⟨e1, e2⟩ => ?_⟩
    subst e1
    have : y = x := by have := e2 vs hs; rw [hx] at this; exact (Option.some.inj this).symm
    subst this
    exact ⟨w2, fun _ _ h => h, fun _ => Step.refl, fx⟩
  have onT : ∀ {a : Addr} {vs : List V}, (∀ (H2 : Hp) (w2 : OM), Step n H w H2 w2 → SqT K H2 a vs ∧ FzL K H2 w2 l vs) → ItOk K (Itt K a) n ⟨l, none⟩ σ H w := fun {a vs} st H2 w2 σ2 ρ2 j ok2 st2 _ _ => by
    obtain ⟨hs, fs⟩ := st H2 w2 st2
    refine ⟨fun d hd => ?_, fun hle => ⟨vs, hs, by rw [← fs.length]; exact hle⟩⟩
    obtain ⟨x, hx, fx⟩ := fs.get hd
    refine ⟨⟨vs, x, hs, hx⟩, fun y H3 ⟨e1, e2⟩ => ?_⟩
    subst e1
    have : y = x := by have := e2 vs hs; rw [hx] at this; exact (Option.some.inj this).symm
    subst this
    exact ⟨w2, fun _ _ h => h, fun _ => Step.refl, fx⟩
  cases h with
  | tup ta fa => cases e; exact .inr (.inl ⟨_, rfl, ⟨_, ta.sq⟩, onT fun H2 w2 st => ⟨(ta.step (st.kp (o := .no) (.inl rfl))).sq, fa.step (st.kp (o := .no) (.inl rfl))⟩⟩)
  | lst ta na fa => cases e; exact .inl ⟨_, rfl, ⟨_, .inl (.inl ta)⟩, onL fun H2 w2 st => ⟨.inl (.inl (st _ _ ta (by rw [na]; exact .inl rfl)).1), fa.step (st.kp (o := .no) (.inl rfl))⟩⟩
  | scr ta fa => cases e; exact .inl ⟨_, rfl, ⟨_, ta.sq⟩, onL fun H2 w2 st => ⟨(ta.step (st.kp (o := .no) (.inl rfl))).sq, fa.step (st.kp (o := .no) (.inl rfl))⟩⟩
  | str z =>
    cases e
    refine .inr (.inr ⟨z, rfl, fun H2 w2 σ2 ρ2 j ok2 st2 _ _ => ⟨fun d hd => ?_, fun hle => ?_⟩⟩)
    · simp only [List.getElem?_map, Option.map_eq_some_iff] at hd
      obtain ⟨c, hc, rfl⟩ := hd
      have hj : z.cps[j]? = some c := by rw [← Array.getElem?_toList]; exact hc
      refine ⟨(Array.getElem?_eq_some_iff.mp hj).1, fun y H3 ⟨e1, c', e2, e3⟩ => ?_⟩
      subst e1 e3
      rw [hj] at e2
      cases e2
      exact ⟨w2, fun _ _ h => h, fun _ => Step.refl, .str _⟩
    · show z.cps.size ≤ j
      simpa using hle
  | _ => cases e
theorem si_seq {e : Expr} {m : AE} (he : SA X e m) : SI X tg e (mItems m) := by
  obtain ⟨t, p, g⟩ := he.ex
  refine ⟨_, pi_seq p, fun n σ H w ρ it ρ' Q ok hm k => ?_⟩
  obtain ⟨⟨s, ρ1⟩, e1, hm⟩ := R.of_bind hm
  dsimp only at hm
  cases s with
  | v c =>
    dsimp only at hm
    split at hm
    · rename_i l hl
      cases hm
      refine g n σ H w ρ _ _ _ ok e1 fun v H1 w1 ok1 st1 sa => ?_
      have sa : Ow X.K H1 w1 (.tm n) c.k c.d v := sa
      have ok2 : Ok X.K H1 (w1.re (.tm n) .no) σ _ := ok1.re (by intro z; cases z) (by intro i z; cases z)
      have st2 : Step n H w H1 (w1.re (.tm n) .no) := st1.trans (Step.re not_fixed_tm)
      rcases it_frozen (n := 0) (σ := σ) (sa.freeze (by intro z; cases z)) hl with ⟨a, e, hq, io⟩ | ⟨a, e, hq, io⟩ | ⟨z, e, io⟩
      · exact .inl ⟨a, e, hq, k _ H1 _ ok2 st2 rfl io⟩
      · exact .inr (.inl ⟨a, e, hq, k _ H1 _ ok2 st2 rfl io⟩)
      · exact .inr (.inr ⟨z, e, k _ H1 _ ok2 st2 rfl io⟩)
    · cases hm
  | s i =>
    dsimp only at hm
    split at hm
    · rename_i d hd
      split at hm
      · rename_i l hl
        cases hm
        refine g n σ H w ρ _ _ _ ok e1 fun v H1 w1 ok1 st1 sa => ?_
        have sa : σ[i]? = some (some v) := sa
        obtain ⟨u, eu, ow⟩ := ok1.slot i _ hd
        rw [sa] at eu
        cases eu
        have fz : Fz X.K H1 w1 d v := by cases ow with | fz h => exact h
        rcases it_frozen (n := 0) (σ := σ) fz hl with ⟨a, e, hq, io⟩ | ⟨a, e, hq, io⟩ | ⟨z, e, io⟩
        · exact .inl ⟨a, e, hq, k _ H1 _ ok1 st1 rfl io⟩
        · exact .inr (.inl ⟨a, e, hq, k _ H1 _ ok1 st1 rfl io⟩)
        · exact .inr (.inr ⟨z, e, k _ H1 _ ok1 st1 rfl io⟩)
      · cases hm
    · rename_i l hd
      cases hm
      refine g n σ H w ρ _ _ _ ok e1 fun v H1 w1 ok1 st1 sa => ?_
      have sa : σ[i]? = some (some v) := sa
      obtain ⟨u, eu, ow⟩ := ok1.slot i _ hd
      rw [sa] at eu
      cases eu
      obtain ⟨a, vs, rfl, hq, _, _⟩ := ow_lst ow
      refine .inl ⟨a, rfl, ⟨vs, .inl (.inl hq)⟩, k _ H1 _ ok1 st1 (by unfold chkOk; simp [hd]) fun H2 w2 σ2 ρ2 j ok2 st2 lk ck => ?_⟩
      have e3 := lk i rfl
      unfold chkOk at ck
      dsimp only at ck
      split at ck
      · rename_i c2 hc2
        rw [Bool.and_eq_true] at ck
        have k1 : c2.k ≤ 1 := of_decide_eq_true ck.1
        have d1 : c2.d = .lst l := of_decide_eq_true ck.2
        obtain ⟨u2, eu2, ow2⟩ := ok2.slot i _ hc2
        rw [e3, sa] at eu2
        cases eu2
        rw [d1] at ow2
        obtain ⟨a2, ws, ea, hq2, _, f2⟩ := ow_lst ow2
        cases ea
        have fs := f2 k1
        refine ⟨fun d hd => ?_, fun hle => ⟨ws, .inl (.inl hq2), by rw [← fs.length]; exact hle⟩⟩
        obtain ⟨x, hx, fx⟩ := fs.get hd
        refine ⟨⟨ws, x, .inl (.inl hq2), hx⟩, fun y H3 ⟨e1, e2⟩ => ?_⟩
        subst e1
        have : y = x := by have := e2 ws (.inl (.inl hq2)); rw [hx] at this; exact (Option.some.inj this).symm
        subst this
        exact ⟨w2, fun _ _ h => h, fun _ => Step.refl, fx⟩
      · cases ck
    · rename_i l hd
      cases hm
      refine g n σ H w ρ _ _ _ ok e1 fun v H1 w1 ok1 st1 sa => ?_
      have sa : σ[i]? = some (some v) := sa
      obtain ⟨u, eu, ow⟩ := ok1.slot i _ hd
      rw [sa] at eu
      cases eu
      have fz := ow.freeze (by intro z; cases z)
      have ok2 := ok1.freeze hd
      have st2 := st1.trans (Step.re (o' := .no) (not_fixed_sl (n := n) (i := i)))
      rcases it_frozen (n := 0) (σ := σ) fz (l := l) rfl with ⟨a, e, hq, io⟩ | ⟨a, e, hq, io⟩ | ⟨z, e, io⟩
      · exact .inl ⟨a, e, hq, k _ H1 _ ok2 st2 rfl io⟩
      · exact .inr (.inl ⟨a, e, hq, k _ H1 _ ok2 st2 rfl io⟩)
      · exact .inr (.inr ⟨z, e, k _ H1 _ ok2 st2 rfl io⟩)
    · cases hm
/-- the ints a .. b - 1 -/
def rgD (a b : Int) : List D := (List.range (b - a).toNat).map fun i => D.int (a + (i : Nat))
theorem rgD_length (a b : Int) : (rgD a b).length = (b - a).toNat := by unfold rgD; rw [List.length_map, List.length_range]
theorem it_range {K : PySem.W.Frag} {n : Nat} {σ : L2.St} {H : Hp} {w : OM} (a b : Int) : ItOk K (Itr a (b - a).toNat) n ⟨rgD a b, none⟩ σ H w := fun H2 w2 σ2 ρ2 j ok2 st2 _ _ => by
  refine ⟨fun d hd => ?_, fun hle => by rw [rgD_length] at hle; exact hle⟩
  unfold rgD at hd
  simp only [List.getElem?_map, Option.map_eq_some_iff] at hd
  obtain ⟨i, hi, rfl⟩ := hd
  rw [List.getElem?_eq_some_iff] at hi
  obtain ⟨hj, hi⟩ := hi
  rw [List.length_range] at hj
  rw [List.getElem_range] at hi
  subst hi
  refine ⟨hj, fun x H3 ⟨e1, e2⟩ => ?_⟩
  subst e1 e2
  exact ⟨w2, fun _ _ h => h, fun _ => Step.refl, .int _⟩
def rgB (a b : Int) : Bool := decide (-(2 ^ 62) ≤ a ∧ a < 2 ^ 62 ∧ -(2 ^ 62) ≤ b ∧ b < 2 ^ 62)
def mRange1 (a : AE) : MI := fun ρ => do
  let (s, ρ1) ← a ρ
  match s.cell ρ1 with
  | some ⟨.int j, _⟩ => if rgB 0 j then R.ok (⟨rgD 0 j, none⟩, ρ1) else R.bad
  | _ => R.bad
def mRange2 (a b : AE) : MI := fun ρ => do
  let (s, ρ1) ← a ρ
  let (u, ρ2) ← b ρ1
  match s.cell ρ2, u.cell ρ2 with
  | some ⟨.int i, _⟩, some ⟨.int j, _⟩ => if rgB i j then R.ok (⟨rgD i j, none⟩, ρ2) else R.bad
  | _, _ => R.bad
theorem si_range1 {a : Expr} {m : AE} {p pos : Pos} (hm : X.mg "range" = none) (ha : SA X a m) (hg : Gl X "range" := by rfl) (hs : starEach [a] X.env = [(false, eval a X.env)] := by rfl) (he : starEach [a] X.env = (false, eval a X.env) :: starEach [] X.env := by rfl) :
    SI X tg (.Call (.Name "range" p) [a] [] pos) (mRange1 m) := by
  obtain ⟨t, q, g⟩ := ha.ex
  refine ⟨_, pi_range1 hg hm (pa_cons q pa_nil he) hs, fun n σ H w ρ it ρ' Q ok hm k => ?_⟩
  obtain ⟨⟨s, ρ1⟩, e1, hm⟩ := R.of_bind hm
  dsimp only at hm
  split at hm
  · rename_i j _ hc
    split at hm
    · rename_i hb
      cases hm
      refine g n σ H w ρ s _ _ ok e1 fun v H1 w1 ok1 st1 sa => ?_
      obtain ⟨o, _, h1⟩ := sa.cell ok1 hc
      cases ow_int h1
      have hb := of_decide_eq_true hb
      refine ⟨j, rfl, hb.2.2.1, hb.2.2.2, k _ H1 w1 ok1 st1 rfl ?_⟩
      have := it_range (K := X.K) (n := 0) (σ := σ) (H := H1) (w := w1) 0 j
      rw [Int.sub_zero] at this
      exact this
    · cases hm
  · cases hm
theorem si_range2 {a b : Expr} {m m2 : AE} {p pos : Pos} (hm : X.mg "range" = none) (ha : SA X a m) (hb : SA X b m2) (hg : Gl X "range" := by rfl) (hs : starEach [a, b] X.env = [(false, eval a X.env), (false, eval b X.env)] := by rfl) (hs2 : starEach [b] X.env = [(false, eval b X.env)] := by rfl)
    (he : starEach [a, b] X.env = (false, eval a X.env) :: starEach [b] X.env := by rfl) (he2 : starEach [b] X.env = (false, eval b X.env) :: starEach [] X.env := by rfl) :
    SI X tg (.Call (.Name "range" p) [a, b] [] pos) (mRange2 m m2) := by
  obtain ⟨t, q, g⟩ := ha.ex
  obtain ⟨t2, q2, g2⟩ := hb.ex
  refine ⟨_, pi_range2 hg hm (pa_cons q (pa_cons q2 pa_nil he2) he) hs hs2, fun n σ H w ρ it ρ' Q ok hm k => ?_⟩
  obtain ⟨⟨s, ρ1⟩, e1, hm⟩ := R.of_bind hm
  obtain ⟨⟨u, ρ2⟩, e2, hm⟩ := R.of_bind hm
  dsimp only at hm e2
  split at hm
  · rename_i i _ j _ hc hd
    split at hm
    · rename_i hb
      cases hm
      refine g n σ H w ρ s _ _ ok e1 fun v H1 w1 ok1 st1 sa => ?_
      refine g2 (n + 1) σ H1 w1 ρ1 u _ _ ok1 e2 fun v2 H2 w2 ok2 st2 sa2 => ?_
      obtain ⟨o, _, h1⟩ := (sa.step st2 (Nat.lt_succ_self n)).cell ok2 hc
      obtain ⟨o2, _, h2⟩ := sa2.cell ok2 hd
      cases ow_int h1
      cases ow_int h2
      have hb := of_decide_eq_true hb
      exact ⟨i, j, rfl, hb, k _ H2 w2 ok2 (st1.trans (st2.mono (Nat.le_succ n))) rfl (it_range i j)⟩
    · cases hm
  · cases hm

/-! ### list(range(..)), tuple(range(..)) -/
structure SRg (X : Cx) (e : Expr) (m : Env → R ((Int × Int) × Env)) : Prop where
  ex : ∃ t, PRg X e t ∧ ∀ (n : Nat) (σ : L2.St) (H : Hp) (w : OM) (ρ : Env) (a b : Int) (ρ' : Env) (Q : Int → Int → Hp → Prop), Ok X.K H w σ ρ → m ρ = .ok ((a, b), ρ') →
    (∀ H' w', Ok X.K H' w' σ ρ' → Step n H w H' w' → Q a b H') → t σ H Q
def mRg1 (a : AE) : Env → R ((Int × Int) × Env) := fun ρ => do
  let (s, ρ1) ← a ρ
  match s.cell ρ1 with
  | some ⟨.int j, _⟩ => R.ok ((0, j), ρ1)
  | _ => R.bad
theorem srg_1 {a : Expr} {m : AE} {p pos : Pos} (hm : X.mg "range" = none) (ha : SA X a m) (hg : Gl X "range" := by rfl) (na : starEach [a] X.env = (false, eval a X.env) :: starEach [] X.env := by rfl) : SRg X (.Call (.Name "range" p) [a] [] pos) (mRg1 m) := by
  obtain ⟨t, q, g⟩ := ha.ex
  refine ⟨_, prg_1 hg hm q na, fun n σ H w ρ a b ρ' Q ok hm k => ?_⟩
  obtain ⟨⟨s, ρ1⟩, e1, hm⟩ := R.of_bind hm
  dsimp only at hm
  split at hm
  · rename_i j _ hc
    cases hm
    refine g n σ H w ρ s _ _ ok e1 fun v H1 w1 ok1 st1 sa => ?_
    obtain ⟨o, _, h1⟩ := sa.cell ok1 hc
    cases ow_int h1
    exact ⟨_, rfl, k H1 w1 ok1 st1⟩
  · cases hm
def rgOkB (a b : Int) : Bool := rgB a b && decide ((b - a).toNat ≤ 16777216)
theorem rgOkB_ok {a b : Int} (h : rgOkB a b = true) : RgOk a b := by
  unfold rgOkB rgB at h
  simp only [Bool.and_eq_true, decide_eq_true_eq] at h
  exact ⟨h.1.1, h.1.2.1, h.1.2.2.1, h.1.2.2.2, h.2⟩
theorem rg_fz {K : PySem.W.Frag} {H : Hp} {w : OM} (a b : Int) : FzL K H w (rgD a b) (rgV a b) := by
  unfold rgD rgV
  generalize (List.range (b - a).toNat) = l
  induction l with
  | nil => exact .nil
  | cons x r ih => exact .cons (.int _) ih
def mListRg (m : Env → R ((Int × Int) × Env)) : AE := fun ρ => do
  let (x, ρ1) ← m ρ
  if rgOkB x.1 x.2 then R.ok (.v ⟨.lst (rgD x.1 x.2), 1⟩, ρ1) else R.bad
def mTupRg (m : Env → R ((Int × Int) × Env)) : AE := fun ρ => do
  let (x, ρ1) ← m ρ
  if rgOkB x.1 x.2 then R.ok (.v (Cell.fz (.tup (rgD x.1 x.2))), ρ1) else R.bad
theorem sa_listRg {e : Expr} {m : Env → R ((Int × Int) × Env)} {p pos : Pos} (hc : X.calm = true) (hm : X.mg "list" = none) (h : SRg X e m) (hg : Gl X "list" := by rfl) (na : starEach [e] X.env = (false, eval e X.env) :: starEach [] X.env := by rfl) : SA X (.Call (.Name "list" p) [e] [] pos) (mListRg m) := by
  obtain ⟨t, q, g⟩ := h.ex
  refine ⟨_, pe_listRg hc hg hm q na, fun n σ H w ρ s ρ' Q ok hm k => ?_⟩
  obtain ⟨⟨⟨a, b⟩, ρ1⟩, e1, hm⟩ := R.of_bind hm
  dsimp only at hm
  split at hm
  · rename_i hb
    cases hm
    refine g n σ H w ρ a b _ _ ok e1 fun H1 w1 ok1 st1 => ⟨rgOkB_ok hb, fun p hp => ?_⟩
    exact k _ _ (w1.put p (.tm n)) (ok1.new hp _) (st1.trans (Step.new hp)) (.lst upd_same OM.put_same (rg_fz a b))
  · cases hm
theorem sa_tupRg {e : Expr} {m : Env → R ((Int × Int) × Env)} {p pos : Pos} (hc : X.calm = true) (hm : X.mg "tuple" = none) (h : SRg X e m) (hg : Gl X "tuple" := by rfl) (na : starEach [e] X.env = (false, eval e X.env) :: starEach [] X.env := by rfl) : SA X (.Call (.Name "tuple" p) [e] [] pos) (mTupRg m) := by
  obtain ⟨t, q, g⟩ := h.ex
  refine ⟨_, pe_tupRgF hc hg hm q na, fun n σ H w ρ s ρ' Q ok hm k => ?_⟩
  obtain ⟨⟨⟨a, b⟩, ρ1⟩, e1, hm⟩ := R.of_bind hm
  dsimp only at hm
  split at hm
  · rename_i hb
    cases hm
    refine g n σ H w ρ a b _ _ ok e1 fun H1 w1 ok1 st1 => ⟨rgOkB_ok hb, fun p ob hp hd => ?_⟩
    exact k _ _ (w1.put p .no) (ok1.new hp _) (st1.trans (Step.new hp)) (.fz (.tup (.inl ⟨⟨ob, upd_same, hd⟩, OM.put_same⟩) (rg_fz a b)))
  · cases hm

/-! ### isinstance -/
def isT (T : String) : D → Option Bool
  | .non => if T = "int" ∨ T = "str" ∨ T = "tuple" ∨ T = "list" ∨ T = "bool" ∨ T = "dict" then some false else none
  | .bl _ => if T = "int" ∨ T = "bool" then some true else if T = "str" ∨ T = "tuple" ∨ T = "list" ∨ T = "dict" then some false else none
  | .int _ => if T = "int" then some true else if T = "str" ∨ T = "tuple" ∨ T = "list" ∨ T = "bool" ∨ T = "dict" then some false else none
  | .str _ => if T = "str" then some true else if T = "int" ∨ T = "tuple" ∨ T = "list" ∨ T = "bool" ∨ T = "dict" then some false else none
  | .tup _ => if T = "tuple" then some true else if T = "int" ∨ T = "str" ∨ T = "list" ∨ T = "bool" ∨ T = "dict" then some false else none
  | .lst _ => if T = "list" then some true else if T = "int" ∨ T = "str" ∨ T = "tuple" ∨ T = "bool" ∨ T = "dict" then some false else none
  | _ => none
def fIsi (T : String) : List Cell → R Cell
  | [c] => match isT T c.d with
    | some b => .ok (Cell.fz (.bl b))
    | none => .bad
  | _ => .bad
def tyN : D → String
  | .non => "NoneType"
  | .bl _ => "bool"
  | .int _ => "int"
  | .str _ => "str"
  | .tup _ => "tuple"
  | .lst _ => "list"
  | .scr _ => "list"
  | .dct _ _ => "dict"
theorem kit_two {T t : String} {b x y : Bool} {P Q : Prop} [Decidable P] [Decidable Q] (e : (if P then some x else if Q then some y else none) = some b) (hp : P → kitB t T = some x) (hq : Q → kitB t T = some y) : kitB t T = some b := by
  split at e
  · cases e; exact hp (by assumption)
  · split at e
    · cases e; exact hq (by assumption)
    · cases e
theorem isT_ok {T : String} {d : D} {b : Bool} (e : isT T d = some b) : kitB (tyN d) T = some b := by
  cases d with
  | non =>
    dsimp only [isT] at e
    dsimp only [tyN]
    split at e
    · rename_i h
      cases e
      rcases h with rfl | rfl | rfl | rfl | rfl | rfl <;> decide +kernel
    · cases e
  | bl x =>
    dsimp only [isT] at e
    dsimp only [tyN]
    refine kit_two e (fun h => ?_) fun h => ?_
    · rcases h with rfl | rfl <;> decide +kernel
    · rcases h with rfl | rfl | rfl | rfl <;> decide +kernel
  | int x =>
    dsimp only [isT] at e
    dsimp only [tyN]
    refine kit_two e (fun h => ?_) fun h => ?_
    · subst h; decide +kernel
    · rcases h with rfl | rfl | rfl | rfl | rfl <;> decide +kernel
  | str x =>
    dsimp only [isT] at e
    dsimp only [tyN]
    refine kit_two e (fun h => ?_) fun h => ?_
    · subst h; decide +kernel
    · rcases h with rfl | rfl | rfl | rfl | rfl <;> decide +kernel
  | tup x =>
    dsimp only [isT] at e
    dsimp only [tyN]
    refine kit_two e (fun h => ?_) fun h => ?_
    · subst h; decide +kernel
    · rcases h with rfl | rfl | rfl | rfl | rfl <;> decide +kernel
  | lst x =>
    dsimp only [isT] at e
    dsimp only [tyN]
    refine kit_two e (fun h => ?_) fun h => ?_
    · subst h; decide +kernel
    · rcases h with rfl | rfl | rfl | rfl | rfl <;> decide +kernel
  | _ => cases e
theorem ow_ty {K : PySem.W.Frag} {H : Hp} {w : OM} {o : Own} {k : Nat} {T : String} {d : D} {v : V} {b : Bool} (h : Ow K H w o k d v) (e : isT T d = some b) : TyX K H v (.type (tyN d)) := by
  cases d with
  | non => cases ow_non h; exact .base .non
  | bl x => cases ow_bl h; exact .base (.bl _)
  | int x => cases ow_int h; exact .base (.int _)
  | str x => cases ow_str h; exact .base (.str _)
  | tup l =>
    obtain ⟨a, xs, rfl, ta, fa⟩ := ow_tup h
    rcases ta with ⟨⟨q, ta, _⟩, _⟩ | ⟨ob, its, n, hk, hc, _⟩
    · exact .fTuple ta
    · exact .kTuple hk hc
  | lst l =>
    obtain ⟨a, xs, rfl, ta, _⟩ := ow_lst h
    exact .base (.lst ta)
  | _ => cases e
/-- isinstance(e, T), T a built-in type's name -/
theorem sa_isi {T : String} {e : Expr} {m : AE} {p q pos : Pos} (hm : X.mg "isinstance" = none) (hmT : X.mg (Str.ofString T) = none) (ha : SA X e m) (hv : bootBuiltins (Str.ofString T) = some (.type T)) (hg : Gl X "isinstance" := by rfl) (hgT : Gl X (Str.ofString T) := by rfl)
    (hn : (Str.ofString T) ≠ "__name__" := by decide) (hd : ((Str.ofString T) == ("__debug__" : Str)) = false := by decide)
    (he : starEach (e :: [.Name (Str.ofString T) q]) X.env = (false, eval e X.env) :: starEach [.Name (Str.ofString T) q] X.env := by rfl) (he2 : starEach [.Name (Str.ofString T) q] X.env = (false, eval (.Name (Str.ofString T) q) X.env) :: starEach [] X.env := by rfl)
    (hpl : (backTo pos (starEach [.Name (Str.ofString T) q] X.env)).any (·.1) = false := by rfl) : SA X (.Call (.Name "isinstance" p) [e, .Name (Str.ofString T) q] [] pos) (mPrim (fIsi T) [m]) := by
  obtain ⟨t, pe, g⟩ := ha.ex
  refine ⟨_, pe_callB call_isi hg hm (by decide +kernel) (pa_cons pe (pa_cons (pe_bltn (v := .ty T) (u := .type T) hgT hmT hv rfl hn hd) pa_nil he2) he) (by decide) (by decide) he hpl, fun n σ H w ρ s ρ' Q ok hm k => ?_⟩
  obtain ⟨ss, cs, c, e1, e2, e3, rfl⟩ := mPrim_ok hm
  obtain ⟨⟨s1, ρ1⟩, f1, e1⟩ := R.of_bind e1
  cases e1
  refine g n σ H w ρ s1 _ _ ok f1 fun v H1 w1 ok1 st1 sa => ?_
  have ow := SrcsAt.cells (n := n) (ss := [s1]) (vs := [v]) ok1 ⟨sa, trivial⟩ e2
  unfold fIsi at e3
  split at e3
  · rename_i c1
    split at e3
    · rename_i b hb
      cases e3
      obtain ⟨v', o, ev, h1⟩ := ow.one
      cases ev
      exact ⟨v, .ty T, _, _, b, rfl, .ty T, ow_ty h1 hb, kit_ty (isT_ok hb), k _ H1 w1 ok1 st1 (.fz (.bl _))⟩
    · cases e3
  · cases e3
end
end Z

/-! Z: comprehensions. -/
namespace Z
open PySem PySem.Spec PyProof.Rows L2

/-! ### readings that hang on what is reckoned alone -/
def rdE (K : PySem.W.Frag) (m : AE) : TE := fun σ H Q => ∃ (n : Nat) (w : OM) (ρ : Env) (s : Src) (ρ' : Env), Ok K H w σ ρ ∧ m ρ = .ok (s, ρ') ∧ ∀ v H' w', Ok K H' w' σ ρ' → Step n H w H' w' → SrcAt K H' w' σ n s v → Q v H'
def rdT (K : PySem.W.Frag) (m : MT) : TT := fun σ H Q => ∃ (n : Nat) (w : OM) (ρ : Env) (b : Bool) (ρ' : Env), Ok K H w σ ρ ∧ m ρ = .ok (b, ρ') ∧ ∀ H' w', Ok K H' w' σ ρ' → Step n H w H' w' → Q b H'
def rdG (K : PySem.W.Frag) (sl : List Nat) (m : MG) : TG := fun v σ H Q => ∃ (w : OM) (ρ : Env) (L : List Nat) (d : D) (ρ' : Env), Ok K H w σ ρ ∧ Fz K H w d v ∧ m d L ρ = .ok ρ' ∧
  ∀ σ', Ok K H w σ' ρ' → σ'.length = σ.length → (∀ i, i ∉ sl → σ'[i]? = σ[i]?) → (∀ i ∈ L, σ'[i]? = σ[i]?) → Q σ' H
section
variable {X : Cx}
theorem SA.rd {e : Expr} {m : AE} (h : SA X e m) : PE X e (rdE X.K m) := by
  obtain ⟨t, p, g⟩ := h.ex
  exact ⟨fun pins s σ H Q I ⟨n, w, ρ, s', ρ', ok, hm, k⟩ => p.run pins s σ H Q I (g n σ H w ρ s' ρ' Q ok hm k)⟩
theorem SG.rd {e : Expr} {sl : List Nat} {m : MG} (h : SG X e sl m) : PG X e (rdG X.K sl m) := by
  obtain ⟨t, p, g⟩ := h.ex
  exact ⟨fun pins s σ H v u Q I r ⟨w, ρ, L, d, ρ', ok, fz, hm, k⟩ => p.run pins s σ H v u Q I r (g σ H w ρ L d v ρ' Q ok fz hm k)⟩
structure STs (X : Cx) (ifs : List Expr) (m : MT) : Prop where
  ex : ∃ t, PTs X ifs t ∧ ∀ (n : Nat) (σ : L2.St) (H : Hp) (w : OM) (ρ : Env) (b : Bool) (ρ' : Env) (Q : Bool → Hp → Prop), Ok X.K H w σ ρ → m ρ = .ok (b, ρ') →
    (∀ H' w', Ok X.K H' w' σ ρ' → Step n H w H' w' → Q b H') → t σ H Q
theorem STs.rd {ifs : List Expr} {m : MT} (h : STs X ifs m) : PTs X ifs (rdT X.K m) := by
  obtain ⟨t, p, g⟩ := h.ex
  exact ⟨fun pins s σ H Q I ⟨n, w, ρ, b, ρ', ok, hm, k⟩ => p.run pins s σ H Q I (g n σ H w ρ b ρ' Q ok hm k)⟩
def mYes : MT := fun ρ => .ok (true, ρ)
theorem sts_nil : STs X [] mYes := ⟨_, pts_nil, fun n σ H w ρ b ρ' Q ok hm k => by
  cases hm
  exact k H w ok Step.refl⟩
theorem sts_one {c : Expr} {m : MT} (h : ST X c m) : STs X [c] m := by
  obtain ⟨t, p, g⟩ := h.ex
  exact ⟨t, pts_one p, g⟩

def wipeE (ρ : Env) : List Nat → Env
  | [] => ρ
  | i :: r => (wipeE ρ r).set i none
def restore (ρ ρ0 : Env) : List Nat → Env
  | [] => ρ
  | i :: r => (restore ρ ρ0 r).set i (ρ0.get i)
def ownOk (ρ : Env) (vs : List Nat) : Bool := vs.all fun i => match ρ.get i with
  | some c => decide (c.k = 0)
  | none => true
theorem wipeE_length (ρ : Env) : ∀ vs, (wipeE ρ vs).length = ρ.length
  | [] => rfl
  | i :: r => by rw [wipeE, Env.length_set, wipeE_length ρ r]
theorem restore_length (ρ ρ0 : Env) : ∀ vs, (restore ρ ρ0 vs).length = ρ.length
  | [] => rfl
  | i :: r => by rw [restore, Env.length_set, restore_length ρ ρ0 r]
theorem wipeE_get {ρ : Env} {i : Nat} {c : Cell} : ∀ {vs : List Nat}, (wipeE ρ vs).get i = some c → ρ.get i = some c ∧ i ∉ vs
  | [], h => ⟨h, by simp⟩
  | j :: r, h => by
    rcases Env.get_set h with ⟨_, z⟩ | ⟨hj, z⟩
    · cases z
    · obtain ⟨h1, h2⟩ := wipeE_get z
      exact ⟨h1, by simp [hj, h2]⟩
theorem restore_get {ρ ρ0 : Env} {i : Nat} {c : Cell} : ∀ {vs : List Nat}, (restore ρ ρ0 vs).get i = some c → (i ∉ vs ∧ ρ.get i = some c) ∨ (i ∈ vs ∧ ρ0.get i = some c)
  | [], h => .inl ⟨by simp, h⟩
  | j :: r, h => by
    rcases Env.get_set h with ⟨e, z⟩ | ⟨hj, z⟩
    · subst e; exact .inr ⟨by simp, z⟩
    · rcases restore_get z with ⟨h1, h2⟩ | ⟨h1, h2⟩
      · exact .inl ⟨by simp [hj, h1], h2⟩
      · exact .inr ⟨by simp [h1], h2⟩
theorem wipe_get {σ : L2.St} {i : Nat} : ∀ {vs : List Nat}, (wipe σ vs)[i]? = if i ∈ vs then (σ[i]?).map (fun _ => none) else σ[i]?
  | [] => by simp [wipe]
  | j :: r => by
    rw [wipe]
    by_cases e : j = i
    · subst e
      rw [if_pos (by simp)]
      by_cases hl : j < σ.length
      · rw [List.getElem?_set_self (by rw [wipe_length]; exact hl), List.getElem?_eq_getElem hl]; rfl
      · rw [List.getElem?_eq_none (by rw [List.length_set, wipe_length]; omega), List.getElem?_eq_none (by omega)]; rfl
    · rw [List.getElem?_set_ne e, wipe_get]
      have : (i ∈ j :: r) ↔ (i ∈ r) := by simp [Ne.symm e]
      simp only [this]
theorem wipe_eq {σ σ2 : L2.St} {vs : List Nat} (hl : σ2.length = σ.length) (h : ∀ i, i ∉ vs → σ2[i]? = (wipe σ vs)[i]?) : wipe σ2 vs = wipe σ vs := by
  refine List.ext_getElem? fun i => ?_
  rw [wipe_get]
  by_cases hi : i ∈ vs
  · rw [if_pos hi, wipe_get, if_pos hi]
    by_cases h' : i < σ.length
    · rw [List.getElem?_eq_getElem h', List.getElem?_eq_getElem (by omega)]; rfl
    · rw [List.getElem?_eq_none (by omega), List.getElem?_eq_none (by omega)]
  · rw [if_neg hi]; exact h i hi
section
variable {K : PySem.W.Frag} {H : Hp} {w : OM} {σ : L2.St} {ρ : Env}
theorem Ok.wipe (ok : Ok K H w σ ρ) (vs : List Nat) : Ok K H w (L2.wipe σ vs) (wipeE ρ vs) := by
  refine ⟨by rw [wipe_length, wipeE_length]; exact ok.len, fun i c h => ?_, ok.live⟩
  obtain ⟨h1, h2⟩ := wipeE_get h
  obtain ⟨v, e, q⟩ := ok.slot i c h1
  exact ⟨v, by rw [wipe_get, if_neg h2]; exact e, q⟩
theorem Ok.wipe2 {σ0 : L2.St} {vs : List Nat} (ok : Ok K H w σ ρ) (hw : L2.wipe σ vs = L2.wipe σ0 vs) : Ok K H w (L2.wipe σ0 vs) (wipeE ρ vs) := by
  rw [← hw]; exact ok.wipe vs
theorem Ok.write {p : Addr} {u : HO} {n : Nat} (ok : Ok K H w σ ρ) (hp : w p = .tm n) : Ok K (upd H p u) w σ ρ := by
  refine ⟨ok.len, fun i c h => ?_, fun a h => ?_⟩
  · obtain ⟨v, e, q⟩ := ok.slot i c h
    exact ⟨v, e, q.step (Kp.write (by rw [hp]; intro z; cases z) (by rw [hp]; intro z; cases z))⟩
  · by_cases z : a = p
    · subst z; rw [upd_same]; exact fun q => nomatch q
    · rw [upd_ne z]; exact ok.live a h
end
def loopC (it : ItD) (g : MG) (tt : MT) (me : AE) (vs : List Nat) : List D → Env → R (List D × Env)
  | [], ρ => .ok ([], ρ)
  | d :: r, ρ => do
    let ρa ← g d [] ρ
    let (b, ρb) ← tt ρa
    if b then do
      let (s, ρc) ← me ρb
      let (c, ρd) ← esc s ρc
      if chkOk it (wipeE ρd vs) then do
        let (acc, ρe) ← loopC it g tt me vs r (wipeE ρd vs)
        R.ok (c.d :: acc, ρe)
      else R.bad
    else if chkOk it (wipeE ρb vs) then loopC it g tt me vs r (wipeE ρb vs) else R.bad
def mComp (mi : MI) (g : MG) (tt : MT) (me : AE) (vs : List Nat) : AE := fun ρ => do
  let (it, ρ1) ← mi ρ
  if ownOk ρ1 vs && decide (it.items.length ≤ 16777216) && chkOk it (wipeE ρ1 vs) then do
    let (acc, ρ2) ← loopC it g tt me vs it.items (wipeE ρ1 vs)
    R.ok (.v ⟨.lst acc, 1⟩, restore ρ2 ρ1 vs)
  else R.bad
theorem lc_sem {tg : Expr} {wi : TI} {mi : MI} {g : MG} {tt : MT} {me : AE} {sl vs : List Nat} (hsl : ∀ i ∈ sl, i ∈ vs)
    (f : ∀ (n : Nat) (σ : L2.St) (H : Hp) (w : OM) (ρ : Env) (it : ItD) (ρ' : Env) (Q : It → Hp → Prop), Ok X.K H w σ ρ → mi ρ = .ok (it, ρ') →
      (∀ J H' w', Ok X.K H' w' σ ρ' → Step n H w H' w' → chkOk it ρ' = true → ItOk X.K J 0 it σ H' w' → Q J H') → wi σ H Q) :
    ∀ (n : Nat) (σ : L2.St) (H : Hp) (w : OM) (ρ : Env) (s : Src) (ρ' : Env) (Q : VK), Ok X.K H w σ ρ → mComp mi g tt me vs ρ = .ok (s, ρ') →
    (∀ v H' w', Ok X.K H' w' σ ρ' → Step n H w H' w' → SrcAt X.K H' w' σ n s v → Q v H') → tLc wi (rdG X.K sl g) (rdT X.K tt) (rdE X.K me) vs σ H Q := by
  intro n σ H w ρ s ρ' Q ok hm k
  obtain ⟨⟨it, ρ1⟩, e1, hm⟩ := R.of_bind hm
  dsimp only at hm
  split at hm
  · rename_i hc
    obtain ⟨⟨total, ρ2⟩, e2, hm⟩ := R.of_bind hm
    cases hm
    simp only [Bool.and_eq_true, decide_eq_true_eq] at hc
    obtain ⟨⟨hown, hlen⟩, hck⟩ := hc
    refine f n σ H w ρ it ρ1 _ ok e1 fun J H1 w1 ok1 st1 c1 io => ?_
    intro D hD
    have ok2 : Ok X.K (upd H1 D (.lst [])) (w1.put D (.tm n)) σ ρ1 := ok1.new hD _
    have st2 : Step n H1 w1 (upd H1 D (.lst [])) (w1.put D (.tm n)) := Step.new hD
    refine ⟨fun i m H2 => m = it.items.length - i ∧ i ≤ it.items.length ∧ ∃ w2 ρ3 acc accV rest, Ok X.K H2 w2 (L2.wipe σ vs) ρ3 ∧ Step n H1 w1 H2 w2 ∧ chkOk it ρ3 = true ∧ loopC it g tt me vs (it.items.drop i) ρ3 = .ok (rest, ρ2) ∧
        acc ++ rest = total ∧ acc.length ≤ i ∧ H2 D = some (.lst accV) ∧ w2 D = .tm n ∧ FzL X.K H2 w2 acc accV,
      ⟨_, rfl, Nat.zero_le _, _, _, [], [], total, ok2.wipe vs, st2, hck, e2, rfl, Nat.le_refl _, upd_same, OM.put_same, .nil⟩, ?_⟩
    rintro i m H2 ⟨rfl, hle, w2, ρ3, acc, accV, rest, ok3, st3, ck3, e3, et, hla, hDa, hwD, fa⟩
    obtain ⟨go, stop⟩ := io H2 w2 (L2.wipe σ vs) ρ3 i ok3 (st3.mono (Nat.zero_le n)) (fun j hj => by
      unfold chkOk at ck3
      rw [hj] at ck3
      dsimp only at ck3
      split at ck3
      · rename_i c hc
        obtain ⟨v, ev, _⟩ := ok3.slot j c hc
        rw [ev]
        exact (wipe_some ev).1.symm
      · cases ck3) ck3
    by_cases hlt : i < it.items.length
    · obtain ⟨hgo, hy⟩ := go _ (List.getElem?_eq_getElem hlt)
      rw [List.drop_eq_getElem_cons hlt] at e3
      obtain ⟨ρa, ea, e3⟩ := R.of_bind e3
      obtain ⟨⟨b, ρb⟩, eb, e3⟩ := R.of_bind e3
      refine .inr ⟨hgo, fun H4 => ∃ w4 ρ4 acc accV rest, Ok X.K H4 w4 (L2.wipe σ vs) ρ4 ∧ Step n H1 w1 H4 w4 ∧ chkOk it ρ4 = true ∧ loopC it g tt me vs (it.items.drop (i + 1)) ρ4 = .ok (rest, ρ2) ∧
        acc ++ rest = total ∧ acc.length ≤ i + 1 ∧ H4 D = some (.lst accV) ∧ w4 D = .tm n ∧ FzL X.K H4 w4 acc accV, ?_, ?_⟩
      · rintro H4 h4
        exact ⟨it.items.length - (i + 1), by omega, rfl, hlt, h4⟩
      · intro x H3 y
        obtain ⟨w3, ok3f, st3f, fz⟩ := hy x H3 y
        have ok4 := ok3f _ _ ok3
        refine ⟨w3, ρ3, [], _, ρa, ok4, fz, ea, fun σ2 ok5 n5 a5 _ => ?_⟩
        have hwp : L2.wipe σ2 vs = L2.wipe σ vs := wipe_eq (by rw [n5, wipe_length]) fun j hj => a5 j fun z => hj (hsl j z)
        refine ⟨hwp, n + 1, w3, ρa, b, ρb, ok5, eb, fun H5 w5 ok6 st6 => ?_⟩
        have D3 := st3f (n + 1) D _ hDa (by rw [hwD]; exact .inr (.inr ⟨n, Nat.lt_succ_self n, rfl⟩))
        have hw3 : w3 D = .tm n := D3.2.trans hwD
        have D5 := st6 D _ D3.1 (by rw [hw3]; exact .inr (.inr ⟨n, Nat.lt_succ_self n, rfl⟩))
        have hw5 : w5 D = .tm n := D5.2.trans hw3
        have fa3 := (st3f 0).kp (o := .no) (.inl rfl)
        have fa5 : FzL X.K H5 w5 acc accV := (fa.step fa3).step (st6.kp (o := .no) (.inl rfl))
        have st5 : Step n H1 w1 H5 w5 := (st3.trans (st3f n)).trans (st6.mono (Nat.le_succ n))
        cases b with
        | false =>
          have e3 : (if chkOk it (wipeE ρb vs) = true then loopC it g tt me vs (it.items.drop (i + 1)) (wipeE ρb vs) else R.bad) = .ok (rest, ρ2) := e3
          split at e3
          · exact iteF ⟨w5, wipeE ρb vs, acc, accV, rest, ok6.wipe2 hwp, st5, by assumption, e3, et, by omega, D5.1, hw5, fa5⟩
          · cases e3
        | true =>
          obtain ⟨⟨s1, ρc⟩, ec, e3⟩ := R.of_bind (show (me ρb >>= _) = _ from e3)
          obtain ⟨⟨c, ρd⟩, ed, e3⟩ := R.of_bind e3
          dsimp only at e3
          split at e3
          · rename_i hck2
            obtain ⟨⟨rest2, ρe⟩, er, e3⟩ := R.of_bind e3
            cases e3
            refine iteT ⟨n + 1, w5, ρb, s1, ρc, ok6, ec, fun v H6 w6 ok7 st7 sa => ?_⟩
            obtain ⟨w7, ok8, st8, ow, kp8⟩ := esc_ok ok7 sa ed
            have D6 := st7 D _ D5.1 (by rw [hw5]; exact .inr (.inr ⟨n, Nat.lt_succ_self n, rfl⟩))
            have hw6 : w6 D = .tm n := D6.2.trans hw5
            have D7 := st8 (n + 1) D _ D6.1 (by rw [hw6]; exact .inr (.inr ⟨n, Nat.lt_succ_self n, rfl⟩))
            have hw7 : w7 D = .tm n := D7.2.trans hw6
            have hw8 : (w7.re (.tm (n + 1)) .no) D = .tm n := by rw [OM.re_ne (by rw [hw7]; intro z; cases z)]; exact hw7
            have ok9 : Ok X.K H6 (w7.re (.tm (n + 1)) .no) σ2 ρd := ok8.re (by intro z; cases z) (by intro i z; cases z)
            have fz9 : Fz X.K H6 (w7.re (.tm (n + 1)) .no) c.d v := ow.freeze (by intro z; cases z)
            have st9 : Step (n + 1) H5 w5 H6 (w7.re (.tm (n + 1)) .no) := (st7.trans (st8 _)).trans (Step.re not_fixed_tm)
            have fa9 : FzL X.K H6 (w7.re (.tm (n + 1)) .no) acc accV := fa5.step (st9.kp (o := .no) (.inl rfl))
            have hla9 : accV.length = acc.length := fa9.length.symm
            have kpw : Kp .no H6 (w7.re (.tm (n + 1)) .no) (upd H6 D (.lst (accV ++ [v]))) (w7.re (.tm (n + 1)) .no) := Kp.write (by rw [hw8]; intro z; cases z) (by rw [hw8]; intro z; cases z)
            refine ⟨accV, D6.1, by rw [sizeLine_eq, hla9]; omega, w7.re (.tm (n + 1)) .no, wipeE ρd vs, acc ++ [c.d], accV ++ [v], rest2, ?_, ?_, hck2, er, ?_, ?_, upd_same, hw8, ?_⟩
            · exact (ok9.write hw8).wipe2 hwp
            · exact (st5.trans (st9.mono (Nat.le_succ n))).trans (Step.write (by rw [hw8]; exact not_fixed_tm))
            · rw [List.append_assoc]; exact et
            · rw [List.length_append]; simp; omega
            · exact (fa9.append (.cons fz9 .nil)).step kpw
          · cases e3
    · have e : i = it.items.length := by omega
      subst e
      rw [List.drop_length] at e3
      cases e3
      rw [List.append_nil] at et
      subst et
      refine .inl ⟨stop (Nat.le_refl _), k (.ref D) H2 w2 ?_ (st1.trans st3) (.lst hDa hwD fa)⟩
      refine ⟨by rw [restore_length, ← ok3.len, wipe_length], fun i c h => ?_, ok3.live⟩
      rcases restore_get h with ⟨h1, h2⟩ | ⟨h1, h2⟩
      · obtain ⟨v, ev, q⟩ := ok3.slot i c h2
        exact ⟨v, (wipe_some ev).1, q⟩
      · obtain ⟨v, ev, q⟩ := ok1.slot i c h2
        have hk : c.k = 0 := by
          have := List.all_eq_true.mp hown i h1
          rw [h2] at this
          exact of_decide_eq_true this
        rw [hk] at q ⊢
        refine ⟨v, ev, ?_⟩
        cases q with
        | fz q => exact .fz (st3.fz q)
  · cases hm
theorem sa_lc {elt tg iter : Expr} {ifs : List Expr} {scope : Scope} {own : List (Str × Nat)} {pos : Pos} {mi : MI} {g : MG} {tt : MT} {me : AE} {sl vs : List Nat} (hc : X.calm = true) (hN : X.N.Nodup) (hi : SI X tg iter mi) (ok : BlkOk X.N X.env.scope scope own) (hv : own.map (·.2) = vs)
    (hg : ∀ (s : Shared) (H : Hp) (C : Addr) (cl : List (Str × Addr)) (fp : List Addr), SG (X.blk s H scope (compEnvC scope cl C X.env) fp) tg sl g) (ht : ∀ (s : Shared) (H : Hp) (C : Addr) (cl : List (Str × Addr)) (fp : List Addr), STs (X.blk s H scope (compEnvC scope cl C X.env) fp) ifs tt)
    (he : ∀ (s : Shared) (H : Hp) (C : Addr) (cl : List (Str × Addr)) (fp : List Addr), SA (X.blk s H scope (compEnvC scope cl C X.env) fp) elt me) (hsl : ∀ i ∈ sl, i ∈ vs := by decide) (hs : ∀ x, foldedSetIterable iter X.env x = pure x := by intro _; rfl) :
    SA X (.ListComp elt [⟨tg, iter, ifs, 0⟩] scope pos) (mComp mi g tt me vs) := by
  subst hv
  obtain ⟨wi, p, f⟩ := hi.ex
  exact ⟨_, pe_lc hc hN p ok (fun s H C cl fp => (hg s H C cl fp).rd) (fun s H C cl fp => (ht s H C cl fp).rd) (fun s H C cl fp => (he s H C cl fp).rd) hs, lc_sem (X := X) (tg := tg) hsl f⟩
/-- y = [..] on one line, y a local -/
theorem ss_setLc {i : Nat} {y : Str} {py : Pos} {elt tg iter : Expr} {ifs : List Expr} {scope : Scope} {own : List (Str × Nat)} {pos spos : Pos} {mi : MI} {g : MG} {tt : MT} {me : AE} {sl vs : List Nat} (hc : X.calm = true) (hN : X.N.Nodup) (hi : SI X tg iter mi) (ok : BlkOk X.N X.env.scope scope own) (hv : own.map (·.2) = vs)
    (hg : ∀ (s : Shared) (H : Hp) (C : Addr) (cl : List (Str × Addr)) (fp : List Addr), SG (X.blk s H scope (compEnvC scope cl C X.env) fp) tg sl g) (ht : ∀ (s : Shared) (H : Hp) (C : Addr) (cl : List (Str × Addr)) (fp : List Addr), STs (X.blk s H scope (compEnvC scope cl C X.env) fp) ifs tt)
    (he : ∀ (s : Shared) (H : Hp) (C : Addr) (cl : List (Str × Addr)) (fp : List Addr), SA (X.blk s H scope (compEnvC scope cl C X.env) fp) elt me) (hsl : ∀ i ∈ sl, i ∈ vs := by decide)
    (hy : X.N[i]? = some y := by rfl) (hyl : X.env.scope.names.lookup y = some .local := by rfl) (hsw : swapsWith (.ListComp elt [⟨tg, iter, ifs, 0⟩] scope pos) (some (.Name y py)) spos.line X.env = pure true := by exact sw_true rfl rfl rfl (by decide +kernel)) (hs : ∀ x, foldedSetIterable iter X.env x = pure x := by intro _; rfl) :
    SS X (.Assign [.Name y py] (.ListComp elt [⟨tg, iter, ifs, 0⟩] scope pos) spos) (mSet i (mComp mi g tt me vs)) := by
  subst hv
  obtain ⟨wi, p, f⟩ := hi.ex
  exact ⟨_, ps_setLc hc hN hy hyl hsw p ok (fun s H C cl fp => (hg s H C cl fp).rd) (fun s H C cl fp => (ht s H C cl fp).rd) (fun s H C cl fp => (he s H C cl fp).rd) hs, mSet_core (lc_sem (X := X) (tg := tg) hsl f)⟩
end
end Z

/-! Z: defs that are called while no repr is under way. -/
namespace Z
open PySem PySem.Spec PyProof.Rows L2
structure RoomG (k : Nat) (A : Around) : Prop where
  r : Room k A
  g : A.guards = some []
theorem RoomG.mono {j k : Nat} {A : Around} (h : RoomG k A) (l : j ≤ k) : RoomG j A := ⟨h.r.mono l, h.g⟩
theorem RoomG.deeper {k : Nat} {A : Around} (h : RoomG (k + 1) A) (e : PySem.Env) : RoomG k (A.deeper e) := ⟨h.r.deeper e, h.g⟩
structure FnOkG (P : Program) (W : World) (K : PySem.W.Frag) (mg : Str → Option Value) (base : Heap) (C : CXT) (lv : Nat) (fa : Addr) (fd : FuncData) (pn : List Str) (sp : Sp) : Prop where
  cnt : ∀ xs G Q E, sp xs G Q E → xs.length = pn.length
  go : ∀ (A : Around) (o : List PySem.Env) (t : Shared) (G : Hp) (ar : Args) (us : List Value) (xs : List V) (Q : VK) (E : XK), RoomG lv A → Env0 P W K mg base A o t G → BindsTo t fd ar (pn.zip us) → Vals xs us → sp xs G Q E →
    codeAny (model P W) A (.call (.ref fa) ar) (CR C o P W G t Q E) t
section
variable {P : Program} {W : World} {K : PySem.W.Frag} {mg : Str → Option Value} {base : Heap} {C : CXT} {lv : Nat} {fa : Addr} {fd : FuncData} {N pn : List Str} {sp : Sp} {x qual : Str} {pa : Arguments} {bd : List Stmt} {sc : Scope} {dvs : List V} {kws : List (Str × V)}
/-- a def by its body -/
theorem FunD.okG (F : FunD K x qual pa bd sc dvs kws fa fd) (S : FnScope N pn sc) (cnt : ∀ xs G Q E, sp xs G Q E → xs.length = pn.length)
    (body : ∀ (cv : Value) (A : Around) (o : List PySem.Env) (t : Shared) (G : Hp) (xs : List V) (Q : VK) (E : XK), RoomG lv (A.deeper (envOfC qual sc t.heap.objs.size fa cv)) → sp xs G Q E →
      ∃ rd, PSs (cxOf C P W K mg base N qual sc fa cv A o t G E) bd rd ∧ rd { nx := fun _ G' => Q .non G', rt := Q } (start N xs) G) : FnOkG P W K mg base C (lv + 1) fa fd pn sp := by
  obtain ⟨c0, d0, v1, v2, v3, v4, a0, cv, v5, sl, rfl, at_, code, _⟩ := F.ex
  constructor
  · exact cnt
  intro A o t G ar us xs Q E room en bi va pr
  have ln := cnt _ _ _ _ pr
  have old : ∀ b ob, base.get? b = some ob → t.heap.get? b = some ob := fun b ob z => (en.bs b ob z).1
  have inK : K.In t.heap := en.mod.kin.keeps old
  have noLim : t.heap.NoLimit := en.mod.nolimit.keeps old
  have slots : ∀ y ∈ pn.zip us, sc.names.lookup y.1 = some .local ∨ (sc.names.lookup y.1 = some .cell ∧ ((cellsFrom (t.heap.objs.size + 1) sc.names []).lookup y.1).isSome = true) := by
    rintro ⟨nm, u⟩ hy
    have hp := S.par nm (List.of_mem_zip hy).1
    exact hp.elim .inl fun z => .inr ⟨z, PySem.W.cellsFrom_some _ _ _ (.inl z)⟩
  refine codeAny_call_function room.r.depth (inK _ _ at_) rfl S.co S.gen rfl (PySem.W.codeRec_of inK code) (bi _ _ _ _ (wpAny_newFunctionEnv_cells S.kind slots fun env ee t1 ic => ?_))
  cases ee
  refine ⟨noLim.keeps ic.toInCall.keep, codeAny_func ?_⟩
  obtain ⟨rd, hp, hq⟩ := body cv A o t G xs Q E (room.deeper _) pr
  have out : ∀ {τ : L2.St} {G' : Hp} {v : V} {u : Value} {t2 : Shared}, Inv (cxOf C P W K mg base N qual sc fa cv A o t G E) [] τ G' t2 → RelV v u → Q v G' → CE o P W G t Q u t2 :=
    fun {τ G' v u t2} J rv q => ⟨v, G', J.os, J.bare, J.base, J.hok, rv, q⟩
  have st := inv_start (CX := C) (E := E) S room.r.hd en ln va ic
  refine wpAny_mono (hp.run [] t1 (start N xs) G _ st hq) ?_ fun e t2 z => z
  rintro (_ | _ | _ | u) t2 z
  · obtain ⟨τ, G', J, q⟩ := z
    exact out (v := .non) (u := .none) J rfl q
  · exact (let ⟨_, _, _, z⟩ := z; z : False).elim
  · exact (let ⟨_, _, _, z⟩ := z; z : False).elim
  · obtain ⟨v, τ, G', J, rv, q⟩ := z
    exact out J rv q
end
section
variable {X : Cx} {C : CXT} {lv : Nat} {fa : Addr} {fd : FuncData} {pn ks : List Str} {sp : Sp} {E : XK} {x : Str} {p pos : Pos}
theorem goG {pins : List (Addr × Obj)} {τ : L2.St} {G : Hp} {t : Shared} {Q : VK} {ar : Args} {us : List Value} {xs : List V} (F : FnOkG X.prog X.w X.K X.mg X.base C lv fa fd pn sp) (hr : RoomG lv X.A) (hx : Passes C X E)
    (I : Inv X pins τ G t) (bi : BindsTo t fd ar (pn.zip us)) (va : Vals xs us) (pr : sp xs G Q E) : codeAny (model X.prog X.w) X.A (.call (.ref fa) ar) (fun r t2 => match r with
      | .ok (.ret u) => EP X pins τ Q u t2
      | .ok _ => False
      | .error e => X.xe e t2) t :=
  codeAny_mono (F.go X.A X.stack t G ar us xs Q E hr I.env0 bi va pr) fun r t2 z => by
    match r, z with
    | .error e, z => exact hx pins τ G t e t2 I z
    | .ok (.ret u), z => exact I.after z
    | .ok .next, z => exact z.elim
    | .ok .brk, z => exact z.elim
    | .ok .cont, z => exact z.elim
theorem callG {pins : List (Addr × Obj)} {τ : L2.St} {G : Hp} {t : Shared} {Q : VK} {us : List Value} {xs : List V} (F : FnOkG X.prog X.w X.K X.mg X.base C lv fa fd pn sp) (hr : RoomG lv X.A) (hb : Binds X.K fd pn []) (hx : Passes C X E)
    (I : Inv X pins τ G t) (va : Vals xs us) (pr : sp xs G Q E) : wpAny (model X.prog X.w) X.A (call (.ref fa) us) (EP X pins τ Q) X.xe t := by
  have hl : (us ++ []).length = pn.length := by rw [List.append_nil, ← va.length]; exact F.cnt _ _ _ _ pr
  have bi := hb t us I.kIn hl
  rw [List.append_nil] at bi
  refine wpAny_call (codeAny_mono (goG F hr hx I bi va pr) fun r t2 z => ?_)
  match r, z with
  | .error e, z => exact z
  | .ok (.ret u), z => exact z
theorem pe_callG {e : Expr} {es : List Expr} {ta : TA} (F : FnOkG X.prog X.w X.K X.mg X.base C lv fa fd pn sp) (hr : RoomG lv X.A) (hg : Gl X x) (hm : X.mg x = some (.ref fa)) (hk : PySem.W.keepIn X.K (.ref fa) = true) (hb : Binds X.K fd pn []) (hx : Passes C X E) (ha : PA X (e :: es) ta)
    (hdb : (x == ("__debug__" : Str)) = false) (he : starEach (e :: es) X.env = (false, eval e X.env) :: starEach es X.env) (hpl : (backTo pos (starEach es X.env)).any (·.1) = false) :
    PE X (.Call (.Name x p) (e :: es) [] pos) (fun σ G Q => ta σ G fun vs G1 => sp vs G1 Q E) := by
  constructor
  intro pins t τ G Q I z
  exact wpAny_Call_Name_kw (ld_glob I hg hm (PySem.W.callWith_K (h₀ := X.base) I.ok.mod.kin hk (thn (ha.run pos pins t τ G _ I z) fun us t1 ⟨vs, G1, I1, rv, q⟩ => ⟨I1.kIn, callG F hr hb hx I1 rv q⟩) he hpl) hdb)
end
/-! ### the law is called -/
section
variable {P : Program} {W : World} {K : PySem.W.Frag} {mg mb : Str → Option Value} {C : CXT} {lv : Nat} {fa a : Addr} {fd : FuncData} {x : Str} {sp : Sp} {t : Shared} {us : List Value} {ns : List Int}
def LawEnd (t : Shared) (r : Result) (t2 : Shared) : Prop := r = .ok (.ret (.bool true)) ∧ OldK t.heap t2.heap ∧ t2.os = t.os ∧ AllBare t2.gens
theorem law_from {G : Hp} (KX : K.In t.heap) (hns : t.heap.Ns mainGlobals mg) (hb : t.heap.Ns builtinsNs mb) (hbb : ∀ x : Str, x ≠ "__name__" → mb x = bootBuiltins x) (hlim : t.heap.NoLimit) (hg : t.gens = #[])
    (ha : ∃ v n, t.heap.get? a = some { cls := .type "list", data := .seq v n }) (hr : Room lv callerA)
    (F : ∀ base : Heap, K.In base → base.Ns mainGlobals mg → FnOkG P W K mg base C lv fa fd [x] sp) (bi : ∀ (s : Shared) (u : Value), BindsTo s fd ⟨[u], []⟩ [(x, u)])
    (pr : sp [.ref a] G (fun v _ => v = .bl true) fun _ _ _ => False) (hC : ∀ e t2, C [] G t (fun _ _ _ => False) e t2 → False)
    (only : Only G) (hok : HOk P W G t.heap) (alone : ∀ b, G b ≠ none → b = a) (outK : G a ≠ none → K.lookup a = none) :
    codeAny (model P W) callerA (.call (.ref fa) ⟨[.ref a], []⟩) (LawEnd t) t := by
  obtain ⟨sv, sn, ha⟩ := ha
  have dictFree : ∀ {b : Addr} {ob : Obj} {es : Array DictEntry} {ep : Nat}, t.heap.get? b = some ob → ob.data = .dict es ep → G b = none := fun {b ob es ep} e d => Classical.byContradiction fun q => by
    cases alone b q
    cases ha.symm.trans e
    exact nomatch d
  have nsHid : ∀ {b : Addr} {m : Str → Option Value}, t.heap.Ns b m → (hidT t.heap G).Ns b m := fun {b m} ⟨ob, es, ep, e, d, z⟩ => ⟨ob, es, ep, hidT_get e (dictFree e d), d, z⟩
  have inHid : K.In (hidT t.heap G) := fun b ob e => hidT_get (KX b ob e) (Classical.byContradiction fun q => by
    cases alone b q
    exact nomatch (outK q).symm.trans e)
  have md : Mod K mg (hidT t.heap G) := ⟨inHid, nsHid hns, ⟨mb, nsHid hb, hbb⟩, hlim.elim fun mc z => ⟨mc, nsHid z.1, z.2⟩⟩
  have en : Env0 P W K mg (hidT t.heap G) callerA [] t G := ⟨rfl, md, fun _ _ e => of_hidT e, Nat.le_of_eq (hidT_size _ _), trivial, fun b z => (nomatch (show b ∈ ([] : List Addr) from z)), hok, .of_eq hg⟩
  refine codeAny_mono ((F _ inHid (nsHid hns)).go callerA [] t G _ [.ref a] [.ref a] _ _ ⟨hr, rfl⟩ en (bi t (.ref a)) (.cons rfl .nil) pr) fun r t2 z => ?_
  match r, z with
  | .error e, z => exact (hC e t2 z).elim
  | .ok .next, z => exact z.elim
  | .ok .brk, z => exact z.elim
  | .ok .cont, z => exact z.elim
  | .ok (.ret u), ⟨v, G2, os2, bare2, un, hok2, rv, q⟩ =>
    cases (show v = .bl true from q)
    cases (show u = Value.bool true from rv)
    refine ⟨rfl, OldK.of_keep fun b ob e => ?_, os2, bare2⟩
    cases q : G b with
    | none => exact un.keep b ob e q (fun z => (nomatch (show b ∈ ([] : List Addr) from z))) (fun z => (nomatch z))
    | some u =>
      rcases only b with z | ⟨o2, l2, z⟩
      · exact nomatch q.symm.trans z
      · have f1 := (hok b _ z).1
        have f2 := (hok2 b _ (un.frzs b o2 _ z)).1
        cases e.symm.trans f1
        exact f2
theorem law_callG (KX : K.In t.heap) (hns : t.heap.Ns mainGlobals mg) (hb : t.heap.Ns builtinsNs mb) (hbb : ∀ x : Str, x ≠ "__name__" → mb x = bootBuiltins x) (hlim : t.heap.NoLimit) (hg : t.gens = #[])
    (ha : t.heap.get? a = some { cls := .type "list", data := .seq us.toArray }) (hi : IntsAre us ns) (hl : ns.length ≤ sizeLine) (hr : Room lv callerA)
    (F : ∀ base : Heap, K.In base → base.Ns mainGlobals mg → FnOkG P W K mg base C lv fa fd [x] sp) (bi : ∀ (s : Shared) (u : Value), BindsTo s fd ⟨[u], []⟩ [(x, u)])
    (pr : ∀ G : Hp, Only G → SqL K G a (ns.map V.int) → sp [.ref a] G (fun v _ => v = .bl true) fun _ _ _ => False) (hC : ∀ G e t2, C [] G t (fun _ _ _ => False) e t2 → False) :
    codeAny (model P W) callerA (.call (.ref fa) ⟨[.ref a], []⟩) (LawEnd t) t := by
  have rv := vals_ints hi
  cases hk : K.lookup a with
  | some ob =>
    have e := KX a ob hk
    cases ha.symm.trans e
    have sq : SqL K (fun _ => none) a (ns.map V.int) := .inr ⟨_, us.toArray, _, hk, rfl, rfl, rfl, by rw [List.size_toArray, hi.length]; exact hl, by simpa using rv⟩
    exact law_from KX hns hb hbb hlim hg ⟨_, _, ha⟩ hr F bi (pr _ (fun _ => .inl rfl) sq) (hC _) (fun _ => .inl rfl) (fun _ _ z => (nomatch z)) (fun _ z => (z rfl).elim) fun z => (z rfl).elim
  | none =>
    let G : Hp := fun b => if b = a then some (.frz { cls := .type "list", data := .seq us.toArray } (.lst (ns.map V.int))) else none
    have at_ : G a = some (.frz { cls := .type "list", data := .seq us.toArray } (.lst (ns.map V.int))) := if_pos rfl
    have off : ∀ b, b ≠ a → G b = none := fun b z => if_neg z
    have only : Only G := fun b => if z : b = a then .inr ⟨_, _, if_pos z⟩ else .inl (off b z)
    have hok : HOk P W G t.heap := fun b u z => by
      by_cases q : b = a
      · subst q
        cases at_.symm.trans z
        exact ⟨ha, by rw [List.length_map]; exact hl, us, _, rv, ha⟩
      · exact nomatch (off b q).symm.trans z
    exact law_from KX hns hb hbb hlim hg ⟨_, _, ha⟩ hr F bi (pr G only (.inl (.inr ⟨_, at_⟩))) (hC _) only hok (fun b z => Classical.byContradiction fun q => z (off b q)) fun _ => hk
end
theorem walk_ofG {l : PySem.W.OpenLaw} {n lv : Nat} {q : Program} {loose : List Str} {XP : (Str → Option Value) → Heap → Prop} {YP : World → Heap → Prop} {d : DefRec} {C : CXT} {x : Str}
    (hn : l.most = some n) (hn2 : n ≤ sizeLine) (hdf : d.params.defaults = []) (hr : Room lv callerA)
    (F : ∀ (W : World) (mg : Str → Option Value) (fa : Addr) (h : Heap), YP W h → h.Ns mainGlobals mg → mg d.name = some (.ref fa) →
      ∃ (K : PySem.W.Frag) (fd : FuncData) (sp : Sp), K.In h ∧ (∀ (s : Shared) (u : Value), BindsTo s fd ⟨[u], []⟩ [(x, u)]) ∧
        (∀ (G : Hp) (a : Addr) (ns : List Int), ns.length ≤ n → Only G → SqL K G a (ns.map V.int) → sp [.ref a] G (fun v _ => v = .bl true) fun _ _ _ => False) ∧
        ∀ base : Heap, K.In base → base.Ns mainGlobals mg → FnOkG l.prog W K mg base C lv fa fd [x] sp)
    (hC : ∀ (G : Hp) (s : Shared) (e : Value) (s' : Shared), C [] G s (fun _ _ _ => False) e s' → False) :
    PySem.W.WalkO q loose XP YP l.row.toRowW d [] (fun f vs => PySem.call f vs) :=
  Att.attach_call hn hdf fun W s0 t mg mb fa o pm cd doc a us ns T Y ho hd hcd hmg hobj hints hlen hg => by
    obtain ⟨K, fd, sp, KX, bi, pr, fn⟩ := F W mg fa _ Y T.T.g hmg
    exact law_callG KX T.T.g T.T.b T.T.builtins T.T.nolimit hg hobj hints (Nat.le_trans hlen hn2) hr fn bi (fun G h1 h2 => pr G a ns hlen h1 h2) fun G e t2 => hC G t e t2
end Z

/-! Z: defs and their calls. -/
namespace Z
open PySem PySem.Spec PyProof.Rows L2

/-! ### a def -/
abbrev FD := List Cell → R (Cell × List Cell)
/-- the arguments that may be written: bound for good, looked at behind the call -/
def locks : Nat → List Cell → List Nat
  | _, [] => []
  | j, c :: r => if c.k = 0 then locks (j + 1) r else j :: locks (j + 1) r
def fins (ρ : Env) : Nat → List Cell → R (List Cell)
  | _, [] => .ok []
  | j, c :: r => do
    let fs ← fins ρ (j + 1) r
    if c.k = 0 then R.ok (c :: fs) else match ρ.get j with
      | some c' => R.ok (c' :: fs)
      | none => R.bad
def runDef (size : Nat) (m : MS) : FD := fun args => do
  let (fl, ρ) ← m (locks 0 args) (args.map some ++ List.replicate (size - args.length) none)
  let fs ← fins ρ 0 args
  match fl with
  | .ret c => R.ok (c, fs)
  | .next => R.ok (Cell.fz .non, fs)
  | _ => R.bad
/-- the j-th argument is the slot j's -/
def ArgsAt (K : PySem.W.Frag) (H : Hp) (w : OM) : Nat → List Cell → List V → Prop
  | _, [], [] => True
  | j, c :: cs, v :: vs => Ow K H w (.sl j) c.k c.d v ∧ ArgsAt K H w (j + 1) cs vs
  | _, _, _ => False
def FinAt (K : PySem.W.Frag) (H : Hp) (w : OM) : Nat → List Cell → List Cell → List V → Prop
  | _, [], [], [] => True
  | j, a :: as, c :: cs, v :: vs => (a.k ≠ 0 → Ow K H w (.sl j) c.k c.d v) ∧ FinAt K H w (j + 1) as cs vs
  | _, _, _, _ => False
def spD (K : PySem.W.Frag) (np : Nat) (f : FD) : Sp := fun vs H Q _ => ∃ (w : OM) (args : List Cell) (r : Cell) (fs : List Cell), args.length = np ∧ ArgsAt K H w 0 args vs ∧ (∀ a, w a ≠ .no → H a ≠ none) ∧ f args = .ok (r, fs) ∧
  ∀ v H' w', (∀ a, w' a ≠ .no → H' a ≠ none) → Step 0 H w H' w' → Ow K H' w' (.tm 0) r.k r.d v → FinAt K H' w' 0 args fs vs → Q v H'
section
variable {K : PySem.W.Frag} {H H' : Hp} {w w' : OM}
theorem ArgsAt.length : ∀ {cs : List Cell} {vs : List V} {j : Nat}, ArgsAt K H w j cs vs → cs.length = vs.length
  | [], [], _, _ => rfl
  | [], _ :: _, _, h => h.elim
  | _ :: _, [], _, h => h.elim
  | c :: cs, v :: vs, j, ⟨_, t⟩ => by rw [List.length_cons, List.length_cons, t.length]
theorem ArgsAt.get : ∀ {cs : List Cell} {vs : List V} {j i : Nat} {c : Cell}, ArgsAt K H w j cs vs → cs[i]? = some c → ∃ v, vs[i]? = some v ∧ Ow K H w (.sl (j + i)) c.k c.d v
  | [], [], _, _, _, _, e => by simp at e
  | [], _ :: _, _, _, _, h, _ => h.elim
  | _ :: _, [], _, _, _, h, _ => h.elim
  | c :: cs, v :: vs, j, 0, c', ⟨h, t⟩, e => by simp at e; subst e; exact ⟨v, rfl, h⟩
  | c :: cs, v :: vs, j, i + 1, c', ⟨h, t⟩, e => by
    obtain ⟨u, h1, h2⟩ := t.get (i := i) (c := c') (by simpa using e)
    exact ⟨u, by simpa using h1, by rw [show j + (i + 1) = j + 1 + i by omega]; exact h2⟩
theorem env_get_map : ∀ {cs : List Cell} {m i : Nat} {c : Cell}, Env.get (cs.map some ++ List.replicate m none) i = some c → cs[i]? = some c
  | [], 0, i, c, h => by cases i <;> cases h
  | [], m + 1, 0, c, h => by cases h
  | [], m + 1, i + 1, c, h => by
    have := env_get_map (cs := []) (m := m) (i := i) (c := c) h
    simp at this
  | a :: cs, m, 0, c, h => by cases h; rfl
  | a :: cs, m, i + 1, c, h => by simpa using env_get_map (cs := cs) (m := m) (i := i) (c := c) h
theorem locks_mem : ∀ {cs : List Cell} {j i : Nat} {c : Cell}, cs[i]? = some c → c.k ≠ 0 → j + i ∈ locks j cs
  | [], _, _, _, e, _ => by simp at e
  | a :: cs, j, 0, c, e, h => by
    simp at e; subst e
    unfold locks
    rw [if_neg h]
    exact List.mem_cons_self ..
  | a :: cs, j, i + 1, c, e, h => by
    have := locks_mem (j := j + 1) (i := i) (c := c) (by simpa using e) h
    rw [show j + (i + 1) = j + 1 + i by omega]
    unfold locks
    split
    · exact this
    · exact List.mem_cons_of_mem _ this
theorem fins_ok {σ σ' : L2.St} {ρ : Env} (ok : Ok K H w σ' ρ) : ∀ {args : List Cell} {vs : List V} {fs : List Cell} {j : Nat}, args.length = vs.length → fins ρ j args = .ok fs → (∀ i v, vs[i]? = some v → σ[j + i]? = some (some v)) →
    (∀ i c, args[i]? = some c → c.k ≠ 0 → σ'[j + i]? = σ[j + i]?) → FinAt K H w j args fs vs
  | [], [], fs, j, _, e, _, _ => by cases e; trivial
  | [], _ :: _, _, _, h, _, _, _ => by simp at h
  | _ :: _, [], _, _, h, _, _, _ => by simp at h
  | a :: as, v :: vs, fs, j, hl, e, hv, hs => by
    obtain ⟨fs', e1, e⟩ := R.of_bind e
    have ih := fins_ok (σ := σ) ok (by simpa using hl) e1 (fun i u hu => by rw [show j + 1 + i = j + (i + 1) by omega]; exact hv (i + 1) u (by simpa using hu)) (fun i c hc hk => by rw [show j + 1 + i = j + (i + 1) by omega]; exact hs (i + 1) c (by simpa using hc) hk)
    split at e
    · cases e
      exact ⟨fun z => absurd (by assumption) z, ih⟩
    · rename_i hk
      split at e
      · rename_i c' hc'
        cases e
        refine ⟨fun _ => ?_, ih⟩
        obtain ⟨u, hu, ow⟩ := ok.slot j c' hc'
        have h0 := hs 0 a rfl hk
        have h1 := hv 0 v rfl
        rw [Nat.add_zero] at h0 h1
        rw [h0, h1] at hu
        cases hu
        exact ow
      · cases e
end
/-! ### a call -/
/-- the arguments as a callee takes them; the slots that it may write, once each -/
def args (ρ : Env) : List Src → R (List Cell)
  | [] => .ok []
  | s :: ss => do
    let cs ← args ρ ss
    match s.cell ρ with
    | some c => R.ok (c :: cs)
    | none => R.bad
def ioSlots (ρ : Env) : List Src → List Nat
  | [] => []
  | .s i :: ss => match ρ.get i with
    | some ⟨_, 0⟩ => ioSlots ρ ss
    | _ => i :: ioSlots ρ ss
  | .v _ :: ss => ioSlots ρ ss
def back (ρ0 : Env) : List Src → List Cell → Env → Env
  | .s i :: ss, c :: cs, ρ => match ρ0.get i with
    | some ⟨_, 0⟩ => back ρ0 ss cs ρ
    | _ => back ρ0 ss cs (ρ.set i (some c))
  | .v _ :: ss, _ :: cs, ρ => back ρ0 ss cs ρ
  | _, _, ρ => ρ
def dupF : List Nat → Bool
  | [] => true
  | i :: r => !r.contains i && dupF r
def mCall (f : FD) (ms : List AE) : AE := fun ρ => do
  let (ss, ρ1) ← evs ms ρ
  let cs ← args ρ1 ss
  if dupF (ioSlots ρ1 ss) then do
    let (r, fs) ← f cs
    R.ok (.v r, back ρ1 ss fs ρ1)
  else R.bad
/-- one label for another -/
theorem Fz.map {K : PySem.W.Frag} {H : Hp} {w w' : OM} {d : D} {v : V} (h : Fz K H w d v) (h0 : ∀ a, w a = .no → w' a = .no) : Fz K H w' d v :=
  h.step (o := .no) fun a x e z => ⟨e, by rcases z with z | z <;> rw [z, h0 a z]⟩
theorem FzL.map {K : PySem.W.Frag} {H : Hp} {w w' : OM} {ds : List D} {vs : List V} (h : FzL K H w ds vs) (h0 : ∀ a, w a = .no → w' a = .no) : FzL K H w' ds vs :=
  h.step (o := .no) fun a x e z => ⟨e, by rcases z with z | z <;> rw [z, h0 a z]⟩
theorem Ow1L.map {K : PySem.W.Frag} {H : Hp} {w w' : OM} {o o' : Own} (h0 : ∀ a, w a = .no → w' a = .no) (h1 : ∀ a, w a = o → w' a = o') : ∀ {ds : List D} {vs : List V}, Ow1L K H w o ds vs → Ow1L K H w' o' ds vs
  | _, _, .nil => .nil
  | _, _, .cons h n t r => .cons h (h1 _ n) (t.map h0) (Ow1L.map h0 h1 r)
theorem Ow.map {K : PySem.W.Frag} {H : Hp} {w w' : OM} {o o' : Own} {k : Nat} {d : D} {v : V} (h : Ow K H w o k d v) (h0 : ∀ a, w a = .no → w' a = .no) (h1 : ∀ a, w a = o → w' a = o') : Ow K H w' o' k d v := by
  cases h with
  | fz h => exact .fz (h.map h0)
  | lst h n t => exact .lst h (h1 _ n) (t.map h0)
  | dct h n e t => exact .dct h (h1 _ n) e (t.map h0)
  | dcu h n x e q r t => exact .dcu h (h1 _ n) x e (q.map h0) r (t.map h0)
  | lst2 h n t nd => exact .lst2 h (h1 _ n) (t.map h0 h1) nd
/-- the caller's labels as the callee has them -/
def lab (ρ : Env) : Nat → Nat → List Src → Own → Own
  | _, _, [], o => if o = .no then .no else .out
  | n, j, .v _ :: ss, o => if o = .tm n then .sl j else lab ρ (n + 1) (j + 1) ss o
  | n, j, .s i :: ss, o => match ρ.get i with
    | some ⟨_, 0⟩ => lab ρ (n + 1) (j + 1) ss o
    | _ => if o = .sl i then .sl j else lab ρ (n + 1) (j + 1) ss o
/-- .. and back -/
def unl (ρ : Env) (n : Nat) : Nat → List Src → Own → Own
  | _, [], o => if o = .tm 0 then .tm n else .no
  | j, .v _ :: ss, o => unl ρ n (j + 1) ss o
  | j, .s i :: ss, o => match ρ.get i with
    | some ⟨_, 0⟩ => unl ρ n (j + 1) ss o
    | _ => if o = .sl j then .sl i else unl ρ n (j + 1) ss o
theorem lab_no {ρ : Env} : ∀ {ss : List Src} {n j : Nat}, lab ρ n j ss .no = .no
  | [], _, _ => rfl
  | .v _ :: ss, n, j => by unfold lab; rw [if_neg (by intro z; cases z)]; exact lab_no
  | .s i :: ss, n, j => by
    unfold lab
    split
    · exact lab_no
    · rw [if_neg (by intro z; cases z)]; exact lab_no
theorem lab_out {ρ : Env} {o : Own} : ∀ {ss : List Src} {n j : Nat}, o ≠ .no → (∀ m, n ≤ m → o ≠ .tm m) → (∀ i, i ∈ ioSlots ρ ss → o ≠ .sl i) → lab ρ n j ss o = .out
  | [], _, _, h, _, _ => by unfold lab; rw [if_neg h]
  | .v _ :: ss, n, j, h, ht, hs => by
    unfold lab
    rw [if_neg (ht n (Nat.le_refl n))]
    exact lab_out h (fun m hm => ht m (by omega)) hs
  | .s i :: ss, n, j, h, ht, hs => by
    unfold lab
    split
    · rename_i hc
      refine lab_out h (fun m hm => ht m (by omega)) fun i' hi' => hs i' ?_
      unfold ioSlots
      rw [hc]; exact hi'
    · rename_i hc
      have e : ioSlots ρ (.s i :: ss) = i :: ioSlots ρ ss := by
        rw [ioSlots]
        split
        · rename_i q; exact absurd q (hc _)
        · rfl
      rw [e] at hs
      rw [if_neg (hs i (List.mem_cons_self ..))]
      exact lab_out h (fun m hm => ht m (by omega)) fun i' hi' => hs i' (List.mem_cons_of_mem _ hi')
theorem unl_no {ρ : Env} {n : Nat} : ∀ {ss : List Src} {j : Nat}, unl ρ n j ss .no = .no
  | [], _ => by unfold unl; rw [if_neg (by intro z; cases z)]
  | .v _ :: ss, j => by unfold unl; exact unl_no
  | .s i :: ss, j => by
    unfold unl
    split
    · exact unl_no
    · rw [if_neg (by intro z; cases z)]; exact unl_no
theorem unl_tm {ρ : Env} {n : Nat} : ∀ {ss : List Src} {j : Nat}, unl ρ n j ss (.tm 0) = .tm n
  | [], _ => by unfold unl; rw [if_pos rfl]
  | .v _ :: ss, j => by unfold unl; exact unl_tm
  | .s i :: ss, j => by
    unfold unl
    split
    · exact unl_tm
    · rw [if_neg (by intro z; cases z)]; exact unl_tm
/-- the arguments are the callee's -/
theorem args_at {K : PySem.W.Frag} {H : Hp} {w wc : OM} {σ : L2.St} {ρ : Env} (ok : Ok K H w σ ρ) (h0 : ∀ a, w a = .no → wc a = .no) : ∀ {ss : List Src} {vs : List V} {cs : List Cell} {n j : Nat}, SrcsAt K H w σ n ss vs → args ρ ss = .ok cs → dupF (ioSlots ρ ss) = true →
    (∀ a, (∀ m, n ≤ m → w a = .tm m → wc a = lab ρ n j ss (w a)) ∧ (∀ i, i ∈ ioSlots ρ ss → w a = .sl i → wc a = lab ρ n j ss (w a))) → ArgsAt K H wc j cs vs
  | [], [], cs, n, j, _, e, _, _ => by cases e; trivial
  | [], _ :: _, _, _, _, h, _, _, _ => h.elim
  | _ :: _, [], _, _, _, h, _, _, _ => h.elim
  | s :: ss, v :: vs, cs, n, j, ⟨h, t⟩, e, du, hl => by
    obtain ⟨cs', e1, e⟩ := R.of_bind e
    split at e
    · rename_i c hc
      cases e
      cases s with
      | v c' =>
        cases (show some c' = some c from hc)
        have du' : dupF (ioSlots ρ ss) = true := du
        refine ⟨?_, args_at ok h0 t e1 du' fun a => ⟨fun m hm ha => ?_, fun i hi ha => ?_⟩⟩
        · have h : Ow K H w (.tm n) c.k c.d v := h
          refine h.map h0 fun a ha => ?_
          rw [(hl a).1 n (Nat.le_refl n) ha, ha, lab, if_pos rfl]
        · rw [(hl a).1 m (by omega) ha, ha, lab, if_neg (by intro z; cases z; omega)]
        · rw [(hl a).2 i hi ha, ha, lab, if_neg (by intro z; cases z)]
      | s i =>
        have hc : ρ.get i = some c := hc
        have h : σ[i]? = some (some v) := h
        obtain ⟨u, hu, ow⟩ := ok.slot i c hc
        rw [h] at hu
        cases hu
        by_cases hk : c.k = 0
        · have eio : ioSlots ρ (.s i :: ss) = ioSlots ρ ss := by
            obtain ⟨d, k⟩ := c
            cases hk
            simp only [ioSlots, hc]
          have ela : ∀ o, lab ρ n j (.s i :: ss) o = lab ρ (n + 1) (j + 1) ss o := fun o => by
            obtain ⟨d, k⟩ := c
            cases hk
            simp only [lab, hc]
          rw [eio] at du
          refine ⟨?_, args_at ok h0 t e1 du fun a => ⟨fun m hm ha => ?_, fun i' hi ha => ?_⟩⟩
          · rw [hk] at ow ⊢
            cases ow with
            | fz ow => exact .fz (ow.map h0)
          · rw [(hl a).1 m (by omega) ha, ha, ela]
          · rw [(hl a).2 i' (by rw [eio]; exact hi) ha, ha, ela]
        · have nk : ∀ d, ρ.get i ≠ some ⟨d, 0⟩ := fun d z => by rw [hc] at z; cases z; exact hk rfl
          have eio : ioSlots ρ (.s i :: ss) = i :: ioSlots ρ ss := by
            rw [ioSlots]
            split
            · rename_i q; exact absurd q (nk _)
            · rfl
          have ela : ∀ o, lab ρ n j (.s i :: ss) o = if o = .sl i then .sl j else lab ρ (n + 1) (j + 1) ss o := fun o => by
            rw [lab]
            split
            · rename_i q; exact absurd q (nk _)
            · rfl
          rw [eio] at du hl
          unfold dupF at du
          rw [Bool.and_eq_true] at du
          refine ⟨?_, args_at ok h0 t e1 du.2 fun a => ⟨fun m hm ha => ?_, fun i' hi ha => ?_⟩⟩
          · refine ow.map h0 fun a ha => ?_
            rw [(hl a).2 i (List.mem_cons_self ..) ha, ha, ela, if_pos rfl]
          · rw [(hl a).1 m (by omega) ha, ha, ela, if_neg (by intro z; cases z)]
          · rw [(hl a).2 i' (List.mem_cons_of_mem _ hi) ha, ha, ela, if_neg]
            intro z
            have z : i' = i := by injection z
            subst z
            have : (ioSlots ρ ss).contains i' = true := by simpa using hi
            rw [this] at du
            exact absurd du.1 (by decide)
    · cases e
/-- behind the call: each slot as it was, or what the callee left -/
theorem back_get {K : PySem.W.Frag} {H H2 : Hp} {w wc' : OM} {σ : L2.St} {ρ0 : Env} : ∀ {ss : List Src} {vs : List V} {cs fs : List Cell} {n j : Nat} {ρ : Env} {i : Nat} {c : Cell}, SrcsAt K H w σ n ss vs → args ρ0 ss = .ok cs → FinAt K H2 wc' j cs fs vs →
    (back ρ0 ss fs ρ).get i = some c → (i ∉ ioSlots ρ0 ss ∧ ρ.get i = some c) ∨ ∃ j' v, σ[i]? = some (some v) ∧ Ow K H2 wc' (.sl j') c.k c.d v ∧ unl ρ0 n j ss (.sl j') = .sl i ∧ j ≤ j'
  | [], [], cs, fs, n, j, ρ, i, c, _, e, hf, hb => by
    cases e
    cases fs with
    | nil => exact .inl ⟨by simp [ioSlots], hb⟩
    | cons _ _ => exact hf.elim
  | [], _ :: _, _, _, _, _, _, _, _, h, _, _, _ => h.elim
  | _ :: _, [], _, _, _, _, _, _, _, h, _, _, _ => h.elim
  | s :: ss, v :: vs, cs, fs, n, j, ρ, i, c, ⟨h, t⟩, e, hf, hb => by
    obtain ⟨cs', e1, e⟩ := R.of_bind e
    split at e
    · rename_i c0 hc0
      cases e
      cases fs with
      | nil => exact hf.elim
      | cons f fs =>
        obtain ⟨hf1, hf2⟩ := hf
        cases s with
        | v c' =>
          rcases back_get t e1 hf2 hb with z | ⟨j', u, a1, a2, a3, a4⟩
          · exact .inl z
          · refine .inr ⟨j', u, a1, a2, ?_, by omega⟩
            have : unl ρ0 (n + 1) (j + 1) ss (.sl j') = .sl i := a3
            have gen : ∀ (ss : List Src) (n m j : Nat) (k i : Nat), unl ρ0 n j ss (.sl k) = .sl i → unl ρ0 m j ss (.sl k) = .sl i := by
              intro ss
              induction ss with
              | nil => intro n m j k i z; unfold unl at z; rw [if_neg (by intro z; cases z)] at z; cases z
              | cons s ss ih =>
                intro n m j k i z
                cases s with
                | v _ => exact ih n m (j + 1) k i z
                | s i2 =>
                  unfold unl at z ⊢
                  split
                  · rename_i hq
                    rw [hq] at z
                    exact ih n m (j + 1) k i z
                  · rename_i hq
                    split at z
                    · rename_i q; exact absurd q (hq _)
                    · split at z
                      · rename_i q; rw [if_pos q]; exact z
                      · rename_i q; rw [if_neg q]; exact ih n m (j + 1) k i z
            exact gen ss (n + 1) n (j + 1) j' i a3
        | s i0 =>
          have gen : ∀ (ss : List Src) (n m j : Nat) (k i : Nat), unl ρ0 n j ss (.sl k) = .sl i → unl ρ0 m j ss (.sl k) = .sl i := by
            intro ss
            induction ss with
            | nil => intro n m j k i z; unfold unl at z; rw [if_neg (by intro z; cases z)] at z; cases z
            | cons s ss ih =>
              intro n m j k i z
              cases s with
              | v _ => exact ih n m (j + 1) k i z
              | s i2 =>
                unfold unl at z ⊢
                split
                · rename_i hq
                  rw [hq] at z
                  exact ih n m (j + 1) k i z
                · rename_i hq
                  split at z
                  · rename_i q; exact absurd q (hq _)
                  · split at z
                    · rename_i q; rw [if_pos q]; exact z
                    · rename_i q; rw [if_neg q]; exact ih n m (j + 1) k i z
          have hc0 : ρ0.get i0 = some c0 := hc0
          by_cases hk : c0.k = 0
          · have eio : ioSlots ρ0 (.s i0 :: ss) = ioSlots ρ0 ss := by
              obtain ⟨d, k⟩ := c0
              cases hk
              simp only [ioSlots, hc0]
            have eb : back ρ0 (.s i0 :: ss) (f :: fs) ρ = back ρ0 ss fs ρ := by
              obtain ⟨d, k⟩ := c0
              cases hk
              simp only [back, hc0]
            have eu : ∀ o, unl ρ0 n j (.s i0 :: ss) o = unl ρ0 n (j + 1) ss o := fun o => by
              obtain ⟨d, k⟩ := c0
              cases hk
              simp only [unl, hc0]
            rw [eb] at hb
            rw [eio]
            rcases back_get t e1 hf2 hb with z | ⟨j', u, a1, a2, a3, a4⟩
            · exact .inl z
            · exact .inr ⟨j', u, a1, a2, by rw [eu]; exact gen ss _ _ _ _ _ a3, by omega⟩
          · have nk : ∀ d, ρ0.get i0 ≠ some ⟨d, 0⟩ := fun d z => by rw [hc0] at z; cases z; exact hk rfl
            have eio : ioSlots ρ0 (.s i0 :: ss) = i0 :: ioSlots ρ0 ss := by
              rw [ioSlots]
              split
              · rename_i q; exact absurd q (nk _)
              · rfl
            have eb : back ρ0 (.s i0 :: ss) (f :: fs) ρ = back ρ0 ss fs (ρ.set i0 (some f)) := by
              rw [back]
              split
              · rename_i q; exact absurd q (nk _)
              · rfl
            have eu : ∀ o, unl ρ0 n j (.s i0 :: ss) o = if o = .sl j then .sl i0 else unl ρ0 n (j + 1) ss o := fun o => by
              rw [unl]
              split
              · rename_i q; exact absurd q (nk _)
              · rfl
            rw [eb] at hb
            rw [eio]
            rcases back_get t e1 hf2 hb with ⟨z1, z2⟩ | ⟨j', u, a1, a2, a3, a4⟩
            · rcases Env.get_set z2 with ⟨e3, e4⟩ | ⟨e3, e4⟩
              · subst e3
                cases e4
                exact .inr ⟨j, v, h, hf1 hk, by rw [eu, if_pos rfl], Nat.le_refl j⟩
              · exact .inl ⟨by simp [e3, z1], e4⟩
            · exact .inr ⟨j', u, a1, a2, by rw [eu, if_neg (by intro z; cases z; omega)]; exact gen ss _ _ _ _ _ a3, by omega⟩
    · cases e
theorem back_length {ρ0 : Env} : ∀ {ss : List Src} {fs : List Cell} {ρ : Env}, (back ρ0 ss fs ρ).length = ρ.length
  | [], _, _ => rfl
  | .v _ :: ss, [], _ => rfl
  | .s _ :: ss, [], _ => rfl
  | .v _ :: ss, _ :: fs, ρ => by rw [back]; exact back_length
  | .s i :: ss, c :: fs, ρ => by
    rw [back]
    split
    · exact back_length
    · rw [back_length, Env.length_set]
theorem mCall_ok {f : FD} {ms : List AE} {ρ ρ' : Env} {s : Src} (h : mCall f ms ρ = .ok (s, ρ')) : ∃ ss ρ1 cs r fs, evs ms ρ = .ok (ss, ρ1) ∧ args ρ1 ss = .ok cs ∧ dupF (ioSlots ρ1 ss) = true ∧ f cs = .ok (r, fs) ∧ s = .v r ∧ ρ' = back ρ1 ss fs ρ1 := by
  obtain ⟨⟨ss, ρ1⟩, e1, h⟩ := R.of_bind h
  obtain ⟨cs, e2, h⟩ := R.of_bind h
  dsimp only at h e2
  split at h
  · obtain ⟨⟨r, fs⟩, e3, h⟩ := R.of_bind h
    cases h
    exact ⟨ss, ρ1, cs, r, fs, e1, e2, by assumption, e3, rfl, rfl⟩
  · cases h
theorem args_length {ρ : Env} : ∀ {ss : List Src} {cs : List Cell}, args ρ ss = .ok cs → cs.length = ss.length
  | [], _, e => by cases e; rfl
  | s :: ss, cs, e => by
    obtain ⟨cs', e1, e⟩ := R.of_bind e
    split at e
    · cases e; rw [List.length_cons, List.length_cons, args_length e1]
    · cases e
/-- the callee's promise serves the caller -/
theorem call_sem {K : PySem.W.Frag} {n np : Nat} {H : Hp} {w : OM} {σ : L2.St} {ρ : Env} {ss : List Src} {vs : List V} {cs : List Cell} {f : FD} {r : Cell} {fs : List Cell} {Q : VK} {E : XK} (ok : Ok K H w σ ρ) (sa : SrcsAt K H w σ n ss vs) (ha : args ρ ss = .ok cs) (hd : dupF (ioSlots ρ ss) = true) (hf : f cs = .ok (r, fs)) (hnp : ss.length = np)
    (k : ∀ v H' w', Ok K H' w' σ (back ρ ss fs ρ) → Step n H w H' w' → Ow K H' w' (.tm n) r.k r.d v → Q v H') : spD K np f vs H Q E := by
  refine ⟨fun a => lab ρ n 0 ss (w a), cs, r, fs, by rw [args_length ha]; exact hnp, ?_, fun a h => ok.live a fun z => h (by show lab ρ n 0 ss (w a) = _; rw [z]; exact lab_no), hf, fun v H' wc' live' st ow fin => ?_⟩
  · exact args_at ok (fun a z => by show lab ρ n 0 ss (w a) = _; rw [z]; exact lab_no) sa ha hd fun a => ⟨fun _ _ _ => rfl, fun _ _ _ => rfl⟩
  · have wd : ∀ a, wc' a ≠ .out → (if wc' a = .out then w a else unl ρ n 0 ss (wc' a)) = unl ρ n 0 ss (wc' a) := fun a h => if_neg h
    have keep : ∀ a x, H a = some x → lab ρ n 0 ss (w a) = .out → H' a = some x ∧ (if wc' a = .out then w a else unl ρ n 0 ss (wc' a)) = w a := fun a x e h => by
      obtain ⟨h1, h2⟩ := st a x e (by show Fixed 0 (lab ρ n 0 ss (w a)); rw [h]; exact .inr (.inl rfl))
      exact ⟨h1, if_pos (h2.trans h)⟩
    have keepNo : ∀ a x, H a = some x → w a = .no → H' a = some x ∧ (if wc' a = .out then w a else unl ρ n 0 ss (wc' a)) = w a := fun a x e h => by
      have hl : lab ρ n 0 ss (w a) = .no := by rw [h]; exact lab_no
      obtain ⟨h1, h2⟩ := st a x e (by show Fixed 0 (lab ρ n 0 ss (w a)); rw [hl]; exact .inl rfl)
      have h3 : wc' a = .no := h2.trans hl
      exact ⟨h1, by rw [h3, if_neg (by intro z; cases z), unl_no, h]⟩
    have stn : Step n H w H' (fun a => if wc' a = .out then w a else unl ρ n 0 ss (wc' a)) := fun a x e f => by
      rcases f with f | f | ⟨j, hj, f⟩
      · exact keepNo a x e f
      · exact keep a x e (by rw [f]; exact lab_out (by intro z; cases z) (fun m _ z => by cases z) fun i _ z => by cases z)
      · exact keep a x e (by rw [f]; exact lab_out (by intro z; cases z) (fun m hm z => by cases z; omega) fun i _ z => by cases z)
    refine k v H' _ ⟨by rw [back_length]; exact ok.len, fun i c hc => ?_, fun a h => live' a fun z => h ?_⟩ stn ?_
    · rcases back_get sa ha fin hc with ⟨z1, z2⟩ | ⟨j', u, a1, a2, a3, _⟩
      · obtain ⟨u, hu, ow⟩ := ok.slot i c z2
        refine ⟨u, hu, ow.step fun a x e z => ?_⟩
        rcases z with z | z
        · exact keepNo a x e z
        · exact keep a x e (by rw [z]; exact lab_out (by intro z; cases z) (fun m _ z => by cases z) fun i' hi' z => by cases z; exact z1 hi')
      · refine ⟨u, a1, a2.map (fun a z => ?_) fun a z => ?_⟩
        · show (if wc' a = .out then w a else unl ρ n 0 ss (wc' a)) = _
          rw [z, if_neg (by intro z; cases z), unl_no]
        · show (if wc' a = .out then w a else unl ρ n 0 ss (wc' a)) = _
          rw [z, if_neg (by intro z; cases z), a3]
    · show (if wc' a = .out then w a else unl ρ n 0 ss (wc' a)) = _
      rw [z, if_neg (by intro z; cases z), unl_no]
    · refine ow.map (fun a z => ?_) fun a z => ?_
      · show (if wc' a = .out then w a else unl ρ n 0 ss (wc' a)) = _
        rw [z, if_neg (by intro z; cases z), unl_no]
      · show (if wc' a = .out then w a else unl ρ n 0 ss (wc' a)) = _
        rw [z, if_neg (by intro z; cases z), unl_tm]
section
variable {X : Cx}
/-- f(e, ..) -/
theorem sa_call {x : Str} {p pos : Pos} {e : Expr} {es : List Expr} {ms : List AE} {f : FD} {fa : Addr} {fd : FuncData} {ps : List Str} {k np : Nat} (F : FnOkG X.prog X.w X.K X.mg X.base CX0 k fa fd ps (spD X.K np f)) (hr : RoomG k X.A) (hm : X.mg x = some (.ref fa)) (hk : PySem.W.keepIn X.K (.ref fa) = true) (hb : Binds X.K fd ps [])
    (ha : SAs X (e :: es) ms) (hl : ms.length = np := by rfl) (hg : Gl X x := by rfl) (hdb : (x == ("__debug__" : Str)) = false := by decide) (he : starEach (e :: es) X.env = (false, eval e X.env) :: starEach es X.env := by rfl) (hpl : (backTo pos (starEach es X.env)).any (·.1) = false := by rfl) :
    SA X (.Call (.Name x p) (e :: es) [] pos) (mCall f ms) := by
  obtain ⟨t, q, g⟩ := ha.ex
  refine ⟨_, pe_callG F hr hg hm hk hb pass0 q hdb he hpl, fun n σ H w ρ s ρ' Q ok hm k => ?_⟩
  obtain ⟨ss, ρ1, cs, r, fs, e1, e2, e3, e4, rfl, rfl⟩ := mCall_ok hm
  refine g n σ H w ρ ss ρ1 _ ok e1 fun vs H1 w1 ok1 st1 sa => ?_
  exact call_sem ok1 sa e2 e3 e4 (by rw [evs_length e1]; exact hl) fun v H' w' ok' st' ow => k v H' w' ok' (st1.trans st') ow
end
end Z

/-! ZA: stores, methods. -/
namespace Z
open PySem PySem.Spec PyProof.Rows L2

section
variable {K : PySem.W.Frag} {H : Hp} {w : OM} {σ : L2.St} {ρ : Env}
/-- the list at slot i is changed -/
theorem Ok.putLst {i : Nat} {a : Addr} {l l' : List D} {vs' : List V} (ok : Ok K H w σ ρ) (hi : ρ.get i = some ⟨.lst l, 1⟩) (hs : σ[i]? = some (some (.ref a))) (hw : w a = .sl i) (f : FzL K H w l' vs') :
    Ok K (upd H a (.lst vs')) w σ (ρ.set i (some ⟨.lst l', 1⟩)) := by
  have h0 : w a ≠ .no := by rw [hw]; intro z; cases z
  refine ⟨by rw [Env.length_set]; exact ok.len, fun j x q => ?_, fun b h => ?_⟩
  · rcases Env.get_set q with ⟨ej, z⟩ | ⟨hj, z⟩
    · subst ej
      cases z
      exact ⟨_, hs, .lst upd_same hw (f.step (Kp.write (o1 := .no) h0 h0))⟩
    · obtain ⟨u, e1, q⟩ := ok.slot j x z
      exact ⟨u, e1, q.step (Kp.write h0 (by rw [hw]; intro z; cases z; exact hj rfl))⟩
  · by_cases z : b = a
    · subst z; rw [upd_same]; exact fun q => nomatch q
    · rw [upd_ne z]; exact ok.live b h
theorem Ok.slotLst {i : Nat} {l : List D} (ok : Ok K H w σ ρ) (hi : ρ.get i = some ⟨.lst l, 1⟩) : ∃ a vs, σ[i]? = some (some (.ref a)) ∧ H a = some (.lst vs) ∧ w a = .sl i ∧ FzL K H w l vs := by
  obtain ⟨v, e, ow⟩ := ok.slot i _ hi
  cases ow with
  | lst h n t => exact ⟨_, _, e, h, n, t⟩
end
section
variable {X : Cx} {pos : Pos}
/-! ### x[i] = v, a list or a dict -/
def setD (l : List D) (i : Int) (d : D) : Option (List D) := (ixN l.length i).map fun j => l.set j d
/-- may the key be put into the dict -/
def putOk (q : D) (ks : List D) : Bool := ((q.sk && ks.all D.sk) || (q.tk && ks.all D.tk)) && decide (ks.length < 16777216)
def mSetIx (i : Nat) (mi mv : AE) : MS := fun _ ρ => do
  let (sv, ρ1) ← mv ρ
  let (c, ρ2) ← esc sv ρ1
  match ρ2.get i with
  | some _ => do
    let (si, ρ3) ← mi ρ2
    match si.cell ρ3, ρ3.get i with
    | some ⟨.int k, _⟩, some ⟨.lst l, 1⟩ => match setD l k c.d with
      | some l' => R.ok (.next, ρ3.set i (some ⟨.lst l', 1⟩))
      | none => R.bad
    | some kc, some ⟨.dct ks ds, 1⟩ => if putOk kc.d ks then R.ok (.next, ρ3.set i (some ⟨.dct (dPutK ks kc.d) (dPutV ks ds kc.d c.d), 1⟩)) else R.bad
    | _, _ => R.bad
  | none => R.bad
theorem setD_ok {K : PySem.W.Frag} {H : Hp} {w : OM} {l l' : List D} {vs : List V} {k : Int} {d : D} {v : V} (e : setD l k d = some l') (f : FzL K H w l vs) (fd : Fz K H w d v) : ∃ j, ixN vs.length k = some j ∧ FzL K H w l' (vs.set j v) := by
  unfold setD at e
  rw [f.length] at e
  cases q : ixN vs.length k with
  | none => rw [q] at e; cases e
  | some j =>
    rw [q] at e
    cases e
    exact ⟨j, rfl, f.set fd j⟩
def rSetU (X : Cx) : TSet := fun o i v H Q => ∃ a b xs k, o = .ref a ∧ i = .ref b ∧ UAt0 X H a xs ∧ Mut (H a) ∧ k.tk = true ∧ NkV X H k (.ref b) ∧ xs.length < sizeLine ∧ ∀ r ob, RelV v r → ExD ob a (uPut xs k b r) → Q (upd H a (.ext fun h => h.get? a = some ob))
theorem set_u (hu : X.A.units + 65 < cLine) : PSet X (rSetU X) := by
  intro pins s σ H o i v ov iv u Q I ro ri rv h
  obtain ⟨a, b, xs, k, rfl, rfl, g, mu, hk, kv, hl, q⟩ := h
  cases (show ov = Value.ref a from ro)
  cases (show iv = Value.ref b from ri)
  exact u_setItem hu I mu g hk kv hl fun s' ob x I' => ⟨_, I', q u ob rv x⟩
def rSetK : TSet := fun o i v H Q => ∃ a H', o = .ref a ∧ DPut H a i v H' ∧ Q H'
theorem set_k (hu : X.A.units + 1 < cLine) : PSet X rSetK := by
  intro pins s σ H o i v ov iv u Q I ro ri rv h
  obtain ⟨a, H', eo, g, q⟩ := h
  subst eo
  cases (show ov = Value.ref a from ro)
  exact d_setItem hu I g ri rv fun s' I' => ⟨H', I', q⟩
def rSetA (X : Cx) : TSet := fun o i v H Q => rSetL o i v H Q ∨ rSetK o i v H Q ∨ rSetU X o i v H Q
theorem set_a (hu : X.A.units + 65 < cLine) : PSet X (rSetA X) := by
  intro pins s σ H o i v ov iv u Q I ro ri rv h
  rcases h with h | h | h
  · exact set_list pins s σ H o i v ov iv u Q I ro ri rv h
  · exact set_k (by omega) pins s σ H o i v ov iv u Q I ro ri rv h
  · exact set_u hu pins s σ H o i v ov iv u Q I ro ri rv h
/-- the thing at slot i is changed -/
theorem Ok.putAny {K : PySem.W.Frag} {H : Hp} {w : OM} {σ : L2.St} {ρ : Env} {i : Nat} {a : Addr} {ho : HO} {d : D} (ok : Ok K H w σ ρ) (hi : σ[i]? = some (some (.ref a))) (hw : w a = .sl i) (f : Ow K (upd H a ho) w (.sl i) 1 d (.ref a)) :
    Ok K (upd H a ho) w σ (ρ.set i (some ⟨d, 1⟩)) := by
  have h0 : w a ≠ .no := by rw [hw]; intro z; cases z
  refine ⟨by rw [Env.length_set]; exact ok.len, fun j x q => ?_, fun b h => ?_⟩
  · rcases Env.get_set q with ⟨ej, z⟩ | ⟨hj, z⟩
    · subst ej
      cases z
      exact ⟨_, hi, f⟩
    · obtain ⟨u, e1, q⟩ := ok.slot j x z
      exact ⟨u, e1, q.step (Kp.write h0 (by rw [hw]; intro z; cases z; exact hj rfl))⟩
  · by_cases z : b = a
    · subst z; rw [upd_same]; exact fun q => nomatch q
    · rw [upd_ne z]; exact ok.live b h
theorem ss_setIxL {i : Nat} {x : Str} {e b : Expr} {mi mv : AE} {p tp : Pos} (hu : X.A.units + 65 < cLine) (hN : X.N[i]? = some x) (hv : Vis X.env.scope x) (hd : (x == ("__debug__" : Str)) = false) (hcd : (x == ("__classdict__" : Str)) = false) (he : SA X e mv) (hb : SA X b mi)
    (hs : swapsWithSole [.Subscript (.Name x p) b tp] e pos.line X.env = pure false) (hw : swappedStores [.Subscript (.Name x p) b tp] e X.env = pure none)
    (ha : ∀ v, assign (.Subscript (.Name x p) b tp) X.env v = (do
      let ov ← holding [v] (eval (.Name x p) X.env)
      let iv ← holding [v, ov] (eval b X.env)
      standAt tp
      holding [v, ov, iv] (setItem ov iv v)
      release [v, ov, iv] [])) (h1 : (assignEach [.Subscript (.Name x p) b tp] X.env).map (·.2) = [assign (.Subscript (.Name x p) b tp) X.env]) :
    SS X (.Assign [.Subscript (.Name x p) b tp] e pos) (mSetIx i mi mv) := by
  obtain ⟨t, q, g⟩ := he.ex
  obtain ⟨u, r, g2⟩ := hb.ex
  refine ⟨_, ps_asg q (pg_sub (pe_var hN hv hd hcd) r (set_a hu) ha) hs hw h1, fun n σ H w ρ L fl ρ' D ok hm k => ?_⟩
  obtain ⟨⟨sv, ρ1⟩, e1, hm⟩ := R.of_bind hm
  obtain ⟨⟨c, ρ2⟩, e2, hm⟩ := R.of_bind hm
  dsimp only at hm
  split at hm
  · rename_i c0 hc0
    obtain ⟨⟨si, ρ3⟩, e3, hm⟩ := R.of_bind hm
    dsimp only at hm
    refine g n σ H w ρ sv _ _ ok e1 fun v H1 w1 ok1 st1 sa => ?_
    obtain ⟨w2, ok2, st2, ow, _⟩ := esc_ok ok1 sa e2
    have ok3 : Ok X.K H1 (w2.re (.tm n) .no) σ ρ2 := ok2.re (by intro z; cases z) (by intro i z; cases z)
    have fz3 : Fz X.K H1 (w2.re (.tm n) .no) c.d v := ow.freeze (by intro z; cases z)
    have st3 : Step n H w H1 (w2.re (.tm n) .no) := (st1.trans (st2 n)).trans (Step.re not_fixed_tm)
    obtain ⟨vo, eo, _⟩ := ok3.slot i c0 hc0
    refine ⟨vo, eo, g2 n σ H1 _ ρ2 si _ _ ok3 e3 fun vi H4 w4 ok4 st4 sa4 => ?_⟩
    split at hm
    · rename_i kk _ l hck hcl
      split at hm
      · rename_i l' hl'
        cases hm
        obtain ⟨o, _, h1⟩ := sa4.cell ok4 hck
        cases ow_int h1
        obtain ⟨a, vs, ea, hH, hwa, fl4⟩ := ok4.slotLst hcl
        rw [eo] at ea
        cases ea
        obtain ⟨j, hj, f5⟩ := setD_ok hl' fl4 (st4.fz fz3)
        refine .inl ⟨a, vs, kk, j, rfl, rfl, hH, hj, ?_⟩
        exact k σ _ w4 (ok4.putLst hcl eo hwa f5) ((st3.trans st4).trans (Step.write (by rw [hwa]; exact not_fixed_sl))) fun _ _ => rfl
      · cases hm
    · rename_i kc ks ds hck hcl
      split at hm
      · rename_i hput
        cases hm
        obtain ⟨o, _, h1⟩ := sa4.cell ok4 hck
        have fv := st4.fz fz3
        obtain ⟨va, ea, owa⟩ := ok4.slot i _ hcl
        rw [eo] at ea
        cases ea
        unfold putOk at hput
        rw [Bool.and_eq_true, Bool.or_eq_true, Bool.and_eq_true, Bool.and_eq_true, decide_eq_true_eq] at hput
        obtain ⟨hkey, hlen⟩ := hput
        rw [← sizeLine_eq] at hlen
        -- the key, as a text or number
        have scal : ∀ (a : Addr) (kvs : List (Key × V)) (q : Key), vo = .ref a → H4 a = some (.dK kvs) → w4 a = .sl i → (kvs.map fun p => kD p.1) = ks → FzL X.K H4 w4 ds (kvs.map (·.2)) → keyD kc.d = some q → ∃ a' H', vo = .ref a' ∧ DPut H4 a' vi v H' ∧ D.nx σ H' := by
          intro a kvs q ev hH hwa hks fd hq
          subst hks
          have eq := keyD_eq hq
          refine ⟨a, _, ev, .inl ⟨kvs, q, hH, keyD_ow hq h1, by simpa using hlen, rfl⟩, ?_⟩
          have h0 : w4 a ≠ .no := by rw [hwa]; intro z; cases z
          have fnew : FzL X.K (upd H4 a (.dK (putK kvs q v))) w4 (dPutV (kvs.map fun p => kD p.1) ds kc.d c.d) ((putK kvs q v).map (·.2)) := by
            rw [putK_vals, ← eq]
            exact (fd.step (Kp.write (o1 := .no) h0 h0)).putV (fv.step (Kp.write (o1 := .no) h0 h0))
          refine k σ _ w4 (ok4.putAny (by rw [eo, ev]) hwa (.dct upd_same hwa (by rw [putK_keys, ← eq]) fnew)) ((st3.trans st4).trans (Step.write (by rw [hwa]; exact not_fixed_sl))) fun _ _ => rfl
        have tupl : ∀ (a : Addr) (xs : List (Z.D × Addr × Value)) (ws : List V) (b : Addr), vo = .ref a → vi = .ref b → UAt0 X H4 a xs → Mut (H4 a) → w4 a = .sl i → xs.map (·.1) = ks → FzL X.K H4 w4 ks (xs.map fun x => .ref x.2.1) → Vals ws (xs.map (·.2.2)) → FzL X.K H4 w4 ds ws → kc.d.tk = true → NkV X H4 kc.d (.ref b) → Fz X.K H4 w4 kc.d (.ref b) → rSetU X vo vi v H4 (D.nx σ) := by
          intro a xs ws b ev eb ha hmu hwa hks fk rw' fd hk kv fkey
          subst hks
          refine ⟨a, b, xs, kc.d, ev, eb, ha, hmu, hk, kv, by simpa using hlen, fun r ob rv hx => ?_⟩
          have h0 : w4 a ≠ .no := by rw [hwa]; intro z; cases z
          have kw := Kp.write (H := H4) (u := .ext fun h => h.get? a = some ob) (o1 := .no) h0 h0
          refine k σ _ w4 (ok4.putAny (by rw [eo, ev]) hwa (.dcu upd_same hwa hx uPut_keys (uPut_fk (fk.step kw) (fkey.step kw)) (uPut_vals rw' rv) ((fd.step kw).putV (fv.step kw)))) ((st3.trans st4).trans (Step.write (by rw [hwa]; exact not_fixed_sl))) fun _ _ => rfl
        cases owa with
        | @dct a kvs _ _ hH hwa hks fd =>
          rcases hkey with ⟨hs1, _⟩ | ⟨ht1, ht2⟩
          · obtain ⟨q, hq⟩ := keyD_sk hs1
            exact .inr (.inl (scal a kvs q rfl hH hwa hks fd hq))
          · obtain ⟨b, eb, kv, fkey⟩ := ow_tk ht1 h1
            have hnil : kvs = [] := by
              cases kvs with
              | nil => rfl
              | cons p r =>
                subst hks
                have : (kD p.1).tk = true := by simpa using (List.all_eq_true.mp ht2) (kD p.1) (by simp)
                rw [sk_tk kD_sk] at this
                cases this
            subst hnil
            cases hks
            exact .inr (.inr (tupl a [] [] b rfl eb (.inr ⟨rfl, .inl hH⟩) (by rw [hH]; trivial) hwa rfl .nil .nil fd ht1 kv (by rw [← eb]; exact fkey)))
        | @dcu a ob xs _ _ ws hH hwa hx hks fk rw' fd =>
          rcases hkey with ⟨_, hs2⟩ | ⟨ht1, ht2⟩
          · rw [exd_not hx hks] at hs2; cases hs2
          · obtain ⟨b, eb, kv, fkey⟩ := ow_tk ht1 h1
            exact .inr (.inr (tupl a xs ws b rfl eb (.inl (uat_of hH hx hks fk)) (by rw [hH]; trivial) hwa hks fk rw' fd ht1 kv (by rw [← eb]; exact fkey)))
      · cases hm
    · cases hm
  · cases hm
/-! ### name op= e -/
def mAug (i : Nat) (f : List Cell → R Cell) (m : AE) : MS := fun L ρ => match ρ.get i with
  | some c0 => do
    let (s, ρ1) ← m ρ
    match s.cell ρ1 with
    | some c => do
      let r ← f [⟨c0.d, 0⟩, c]
      if c0.k = 0 then (if L.contains i then R.bad else R.ok (.next, ρ1.set i (some r))) else R.bad
    | none => R.bad
  | none => R.bad
theorem iop_addAll : OpR X (inplaceOp .Add) (fun x y H Q => (rI0 (fun i j => .int (i + j)) x y H Q) ∨ (∃ i j, x = .str i ∧ y = .str j ∧ i.length + j.length ≤ sizeLine ∧ Q (.str (i ++ j)) H)) := iop_add.or iop_add_str
def fIAdd : List Cell → R Cell
  | [⟨.int i, _⟩, ⟨.int j, _⟩] => .ok (Cell.fz (.int (i + j)))
  | [⟨.str x, _⟩, ⟨.str y, _⟩] => if x.length + y.length ≤ 16777216 then .ok (Cell.fz (.str (x ++ y))) else .bad
  | _ => .bad
theorem s_iadd : CallS X (r2L fun x y H Q => (rI0 (fun i j => .int (i + j)) x y H Q) ∨ (∃ i j, x = .str i ∧ y = .str j ∧ i.length + j.length ≤ sizeLine ∧ Q (.str (i ++ j)) H)) fIAdd := by
  intro n H w σ ρ cs vs c Q ok ow e k
  unfold fIAdd at e
  split at e
  · cases e
    obtain ⟨v, u, o, q, rfl, h1, h2⟩ := ow.two
    cases ow_int h1
    cases ow_int h2
    exact .inl ⟨_, _, rfl, rfl, k _ H w ok Step.refl (.fz (.int _))⟩
  · split at e
    · cases e
      obtain ⟨v, u, o, q, rfl, h1, h2⟩ := ow.two
      cases ow_str h1
      cases ow_str h2
      exact .inr ⟨_, _, rfl, rfl, by rw [sizeLine_eq]; assumption, k _ H w ok Step.refl (.fz (.str _))⟩
    · cases e
  · cases e
/-! ### x[i] op= e, a list of ints -/
def mAugIx (i : Nat) (mi : AE) (f : List Cell → R Cell) (mv : AE) : MS := fun _ ρ => match ρ.get i with
  | some _ => do
    let (si, ρ1) ← mi ρ
    match si.cell ρ1, ρ1.get i with
    | some ⟨.int kk, _⟩, some ⟨.lst l, 1⟩ => match atI l kk with
      | some (.int old) => do
        let (sv, ρ2) ← mv ρ1
        match sv.cell ρ2 with
        | some c => do
          let r ← f [⟨.int old, 0⟩, c]
          match r, ρ2.get i with
          | ⟨.int new, _⟩, some ⟨.lst l2, 1⟩ => match setD l2 kk (.int new) with
            | some l' => R.ok (.next, ρ2.set i (some ⟨.lst l', 1⟩))
            | none => R.bad
          | _, _ => R.bad
        | none => R.bad
      | _ => R.bad
    | _, _ => R.bad
  | none => R.bad
theorem ss_augIx {i : Nat} {x : Str} {b e : Expr} {mi mv : AE} {op : Operator} {f : List Cell → R Cell} {r : R2} {p tp : Pos} (ho : OpR X (inplaceOp op) r) (hs : CallS X (r2L r) f) (hb : SA X b mi) (he : SA X e mv) (hN : X.N[i]? = some x := by rfl) (hv : Vis X.env.scope x := by first | exact Or.inl rfl | exact Or.inr (Or.inl rfl) | exact Or.inr (Or.inr rfl)) (hd : (x == ("__debug__" : Str)) = false := by decide) (hcd : (x == ("__classdict__" : Str)) = false := by decide)
    (ha : ∀ ov iv new, augStore b ov iv new = (do holding [new, ov, iv] (setItem ov iv new); release [new, ov, iv] []; pure .next) := by intros; rfl) : SS X (.AugAssign (.Subscript (.Name x p) b tp) op e pos) (mAugIx i mi f mv) := by
  obtain ⟨t, q, g⟩ := hb.ex
  obtain ⟨u, q2, g2⟩ := he.ex
  refine ⟨_, ps_augS (pe_var hN hv hd hcd) q get_list q2 ho set_list ha, fun n σ H w ρ L fl ρ' D ok hm k => ?_⟩
  unfold mAugIx at hm
  split at hm
  · rename_i c0 hc0
    obtain ⟨v0, ev0, _⟩ := ok.slot i c0 hc0
    obtain ⟨⟨si, ρ1⟩, e1, hm⟩ := R.of_bind hm
    dsimp only at hm
    split at hm
    · rename_i kk _ l hck hcl
      split at hm
      · rename_i old hold
        obtain ⟨⟨sv, ρ2⟩, e2, hm⟩ := R.of_bind hm
        dsimp only at hm
        split at hm
        · rename_i c hc
          obtain ⟨rr, e3, hm⟩ := R.of_bind hm
          split at hm
          · rename_i new _ l2 hcl2
            split at hm
            · rename_i l' hl'
              cases hm
              refine ⟨v0, ev0, g n σ H w ρ si _ _ ok e1 fun vi H1 w1 ok1 st1 sa => ?_⟩
              obtain ⟨o, _, h1⟩ := sa.cell ok1 hck
              cases ow_int h1
              obtain ⟨a, vs, ea, hH, hwa, fl1⟩ := ok1.slotLst hcl
              rw [ev0] at ea
              cases ea
              obtain ⟨vold, hvo, fo⟩ := atI_fz fl1 hold
              cases fo
              refine ⟨a, vs, kk, _, rfl, rfl, .inl (.inl hH), hvo, ?_⟩
              refine g2 n σ H1 w1 ρ1 sv _ _ ok1 e2 fun v2 H2 w2 ok2 st2 sa2 => ?_
              obtain ⟨o2, hno2, h2⟩ := sa2.cell ok2 hc
              refine hs n H2 w2 σ _ _ [.int old, v2] _ _ ok2 (.cons (o := .tm n) (by intro z; cases z) (.fz (.int old)) (.cons hno2 h2 .nil)) e3 fun v3 H3 w3 ok3 st3 ow3 => ?_
              cases ow_int ow3
              obtain ⟨a3, vs3, ea3, hH3, hwa3, fl3⟩ := ok3.slotLst hcl2
              rw [ev0] at ea3
              cases ea3
              obtain ⟨j, hj, f5⟩ := setD_ok hl' fl3 (.int new)
              refine ⟨a, vs3, kk, j, rfl, rfl, hH3, hj, ?_⟩
              exact k σ _ w3 (ok3.putLst hcl2 ev0 hwa3 f5) (((st1.trans st2).trans st3).trans (Step.write (by rw [hwa3]; exact not_fixed_sl))) fun _ _ => rfl
            · cases hm
          · cases hm
        · cases hm
      · cases hm
    · cases hm
  · cases hm

/-! ### methods of a list that stands in a slot -/
/-- f: the items, the arguments; what comes back, the items behind -/
def MethS (X : Cx) (r : V → List V → Hp → VK → Prop) (f : List D → List D → R (D × List D)) : Prop :=
  ∀ (H : Hp) (w : OM) (a : Addr) (vs us : List V) (l ds : List D) (d : D) (l' : List D) (Q : VK), H a = some (.lst vs) → FzL X.K H w l vs → FzL X.K H w ds us → f l ds = .ok (d, l') →
    (∀ v vs', Fz X.K H w d v → FzL X.K H w l' vs' → Q v (upd H a (.lst vs'))) → r (.ref a) us H Q
def mMeth (i : Nat) (f : List D → List D → R (D × List D)) (ms : List AE) : AE := fun ρ => match ρ.get i with
  | some ⟨.lst _, 1⟩ => do
    let (ss, ρ1) ← evs ms ρ
    let (ds, ρ2) ← escs ss ρ1
    match ρ2.get i with
    | some ⟨.lst l, 1⟩ => do
      let (d, l') ← f l ds
      R.ok (.v (Cell.fz d), ρ2.set i (some ⟨.lst l', 1⟩))
    | _ => R.bad
  | _ => R.bad
theorem meth_sem {i : Nat} {f : List D → List D → R (D × List D)} {ms : List AE} {r : V → List V → Hp → VK → Prop} {t : TA} (hs : MethS X r f)
    (g : ∀ (n : Nat) (σ : L2.St) (H : Hp) (w : OM) (ρ : Env) (ss : List Src) (ρ' : Env) (Q : List V → Hp → Prop), Ok X.K H w σ ρ → evs ms ρ = .ok (ss, ρ') →
      (∀ vs H' w', Ok X.K H' w' σ ρ' → Step n H w H' w' → SrcsAt X.K H' w' σ n ss vs → Q vs H') → t σ H Q) :
    ∀ (n : Nat) (σ : L2.St) (H : Hp) (w : OM) (ρ : Env) (s : Src) (ρ' : Env) (Q : VK), Ok X.K H w σ ρ → mMeth i f ms ρ = .ok (s, ρ') →
    (∀ v H' w', Ok X.K H' w' σ ρ' → Step n H w H' w' → SrcAt X.K H' w' σ n s v → Q v H') → ∃ x, σ[i]? = some (some x) ∧ tyV X.K "list" x H ∧ t σ H fun xs H2 => r x xs H2 Q := by
  intro n σ H w ρ s ρ' Q ok hm k
  unfold mMeth at hm
  split at hm
  · rename_i l0 hl0
    obtain ⟨⟨ss, ρ1⟩, e1, hm⟩ := R.of_bind hm
    obtain ⟨⟨ds, ρ2⟩, e2, hm⟩ := R.of_bind hm
    dsimp only at hm e2
    split at hm
    · rename_i l hl
      obtain ⟨⟨d, l'⟩, e3, hm⟩ := R.of_bind hm
      cases hm
      obtain ⟨a, vs0, ea, hH0, _, _⟩ := ok.slotLst hl0
      refine ⟨_, ea, .inl ⟨rfl, vs0, .inl (.inl hH0)⟩, ?_⟩
      refine g n σ H w ρ ss _ _ ok e1 fun us H1 w1 ok1 st1 sa => ?_
      obtain ⟨w2, ok2, st2, fd⟩ := escs_ok ok1 sa e2
      obtain ⟨a2, vs, ea2, hH2, hwa2, fl2⟩ := ok2.slotLst hl
      rw [ea] at ea2
      cases ea2
      refine hs H1 w2 a vs us l ds d l' Q hH2 fl2 fd e3 fun v vs' fv fl' => ?_
      have h0 : w2 a ≠ .no := by rw [hwa2]; intro z; cases z
      exact k v _ w2 (ok2.putLst hl ea hwa2 fl') ((st1.trans st2).trans (Step.write (by rw [hwa2]; exact not_fixed_sl))) (.fz (fv.step (Kp.write (o1 := .no) h0 h0)))
    · cases hm
  · cases hm
theorem sa_meth {i : Nat} {x name : Str} {id : String} {e : Expr} {es : List Expr} {ms : List AE} {f : List D → List D → R (D × List D)} {r : V → List V → Hp → VK → Prop} {p apos cpos : Pos} (slot : Slot "list" name id) (hty : typeOf (.builtin id) = pure (.type "method_descriptor")) (hm : MtR X id r) (hs : MethS X r f) (ha : SAs X (e :: es) ms)
    (hN : X.N[i]? = some x := by rfl) (hv : Vis X.env.scope x := by first | exact Or.inl rfl | exact Or.inr (Or.inl rfl) | exact Or.inr (Or.inr rfl)) (hd : (x == ("__debug__" : Str)) = false := by decide) (hcd : (x == ("__classdict__" : Str)) = false := by decide)
    (hbase : attributeBase (.Name x p) name X.env (eval (.Name x p) X.env) = eval (.Name x p) X.env := by rfl)
    (hfew : ((backTo cpos (starEach (e :: es) X.env)).all (fun x => !x.1) && (backToKw cpos (keywordEach [] X.env)).all (fun x => x.1.isSome)
      && decide ((e :: es).length + ([] : List Keyword).length + (if ([] : List Keyword).isEmpty then 0 else 1) < 30)) = true := by rfl)
    (hline : (apos.endLine == cpos.line) = true := by rfl) (hst : starEach (e :: es) X.env = (false, eval e X.env) :: starEach es X.env := by rfl) (hplain : (backTo cpos (starEach es X.env)).any (·.1) = false := by rfl) :
    SA X (.Call (.Attribute (.Name x p) name apos) (e :: es) [] cpos) (mMeth i f ms) := by
  obtain ⟨t, q, g⟩ := ha.ex
  exact ⟨_, pe_bm PySem.F.plainAttrs_list slot hty hm (pe_var hN hv hd hcd) q hbase hfew hline hst hplain, fun n σ H w ρ s ρ' Q ok hm k => meth_sem hs g n σ H w ρ s ρ' Q ok hm k⟩
theorem sa_meth0 {i : Nat} {x name : Str} {id : String} {f : List D → List D → R (D × List D)} {r : V → List V → Hp → VK → Prop} {p apos cpos : Pos} (slot : Slot "list" name id) (hty : typeOf (.builtin id) = pure (.type "method_descriptor")) (hm : MtR X id r) (hs : MethS X r f)
    (hN : X.N[i]? = some x := by rfl) (hv : Vis X.env.scope x := by first | exact Or.inl rfl | exact Or.inr (Or.inl rfl) | exact Or.inr (Or.inr rfl)) (hd : (x == ("__debug__" : Str)) = false := by decide) (hcd : (x == ("__classdict__" : Str)) = false := by decide)
    (hbase : attributeBase (.Name x p) name X.env (eval (.Name x p) X.env) = eval (.Name x p) X.env := by rfl) (hline : (apos.endLine == cpos.line) = true := by rfl) :
    SA X (.Call (.Attribute (.Name x p) name apos) [] [] cpos) (mMeth i f []) := by
  have g := (sas_nil (X := X)).ex
  obtain ⟨t, q, g⟩ := g
  refine ⟨_, pe_bm0 PySem.F.plainAttrs_list slot hty hm (pe_var hN hv hd hcd) hbase hline, fun n σ H w ρ s ρ' Q ok hm k => ?_⟩
  have z := meth_sem (t := tNil) hs (fun n σ H w ρ ss ρ' Q ok h k => by cases h; exact k [] H w ok Step.refl trivial) n σ H w ρ s ρ' Q ok hm k
  exact z
def fAppend (l ds : List D) : R (D × List D) := match ds with
  | [d] => if l.length < 16777216 then .ok (.non, l ++ [d]) else .bad
  | _ => .bad
theorem s_append : MethS X rAppend fAppend := by
  intro H w a vs us l ds d l' Q hH fl fd e k
  unfold fAppend at e
  split at e
  · split at e
    · rename_i hl
      cases e
      cases fd with
      | cons f1 f2 =>
        cases f2
        exact ⟨a, vs, _, rfl, rfl, hH, by rw [sizeLine_eq, ← fl.length]; exact hl, k _ _ .non (fl.append (.cons f1 .nil))⟩
    · cases e
  · cases e
def fExtend (l ds : List D) : R (D × List D) := match ds with
  | [.lst m] => if l.length + m.length ≤ 16777216 then .ok (.non, l ++ m) else .bad
  | _ => .bad
theorem s_extend : MethS X rExtend fExtend := by
  intro H w a vs us l ds d l' Q hH fl fd e k
  unfold fExtend at e
  split at e
  · split at e
    · rename_i hl
      cases e
      cases fd with
      | cons f1 f2 =>
        cases f2
        cases f1 with
        | lst hb nb fb => exact ⟨a, _, vs, _, rfl, rfl, hH, hb, by rw [sizeLine_eq, ← fl.length, ← fb.length]; exact hl, k _ _ .non (fl.append fb)⟩
    · cases e
  · cases e
/-- pop(), pop(i) -/
def fPop0 (l ds : List D) : R (D × List D) := match ds with
  | [] => match l[l.length - 1]? with
    | some d => .ok (d, l.dropLast)
    | none => .bad
  | _ => .bad
theorem s_pop0 : MethS X rPop fPop0 := by
  intro H w a vs us l ds d l' Q hH fl fd e k
  unfold fPop0 at e
  split at e
  · split at e
    · rename_i hl
      cases e
      cases fd
      obtain ⟨v, hv, fv⟩ := fl.get hl
      exact ⟨a, vs, v, rfl, rfl, hH, by rw [← fl.length]; exact hv, k _ _ fv fl.dropLast⟩
    · cases e
  · cases e
def fPop1 (l ds : List D) : R (D × List D) := match ds with
  | [.int i] => if -(2 ^ 63) ≤ i ∧ i < 2 ^ 63 then match seqIndex? i l.length with
      | some j => match l[j]? with
        | some d => .ok (d, l.eraseIdx j)
        | none => .bad
      | none => .bad
    else .bad
  | _ => .bad
/-! ### index -/
def ixOf (x : D) : Nat → List D → Option Nat
  | _, [] => none
  | j, d :: r => if d.eqv x then some j else ixOf x (j + 1) r
theorem ixOf_ok {x : D} : ∀ {l : List D} {j i : Nat}, ixOf x j l = some i → ∃ k z, i = j + k ∧ l[k]? = some z ∧ z.eqv x = true ∧ ∀ (m : Nat) (z' : D), m < k → l[m]? = some z' → z'.eqv x = false
  | [], _, _, h => by cases h
  | d :: r, j, i, h => by
    unfold ixOf at h
    split at h
    · rename_i hd
      cases h
      exact ⟨0, d, rfl, rfl, hd, fun m z' hm _ => absurd hm (Nat.not_lt_zero m)⟩
    · rename_i hd
      obtain ⟨k, z, h1, h2, h3, h4⟩ := ixOf_ok h
      refine ⟨k + 1, z, by omega, by simpa using h2, h3, fun m z' hm hz => ?_⟩
      cases m with
      | zero =>
        have hz : d = z' := by simpa using hz
        subst hz
        simpa using hd
      | succ m => exact h4 m z' (by omega) (by simpa using hz)
def fIndexL : List Cell → R Cell
  | [⟨.lst l, _⟩, c] => if (D.lst l).okd 60 && c.d.okd 60 then match ixOf c.d 0 l with
      | some j => .ok (Cell.fz (.int j))
      | none => .bad
    else .bad
  | _ => .bad
def fIndexT : List Cell → R Cell
  | [⟨.tup l, _⟩, c] => if (D.tup l).okd 60 && c.d.okd 60 then match ixOf c.d 0 l with
      | some j => .ok (Cell.fz (.int j))
      | none => .bad
    else .bad
  | _ => .bad
theorem ixOf_py {l : List D} {x : D} {j : Nat} (h : ixOf x 0 l = some j) : ∃ z, (D.pyL l)[j]? = some z ∧ PyData.eqv z x.py = true ∧ ∀ (m : Nat) (z' : PyData), m < j → (D.pyL l)[m]? = some z' → PyData.eqv z' x.py = false := by
  obtain ⟨k, z, h1, h2, h3, h4⟩ := ixOf_ok h
  rw [Nat.zero_add] at h1
  subst h1
  rw [D.pyL_map]
  refine ⟨z.py, by rw [List.getElem?_map, h2]; rfl, h3, fun m z' hm hz => ?_⟩
  rw [List.getElem?_map] at hz
  cases q : l[m]? with
  | none => rw [q] at hz; cases hz
  | some y =>
    rw [q] at hz
    cases hz
    exact h4 m y hm q
/-! ### methods that read -/
def rRecv (r : V → List V → Hp → VK → Prop) : List V → Hp → VK → Prop := fun vs H Q => match vs with
  | x :: xs => r x xs H Q
  | [] => False
def mRecv (chk : D → Bool) (f : List Cell → R Cell) (m : AE) (ms : List AE) : AE := fun ρ => do
  let (s, ρ1) ← m ρ
  match (s.cell ρ1).map (fun c => chk c.d) with
  | some true => do
    let (ss, ρ2) ← evs ms ρ1
    match cells ρ2 (s :: ss) with
    | some cs => do
      let r ← f cs
      R.ok (.v r, ρ2)
    | none => R.bad
  | _ => R.bad
theorem sa_recv {o e : Expr} {es : List Expr} {m : AE} {ms : List AE} {chk : D → Bool} {f : List Cell → R Cell} {ty : V → Hp → Prop} {r : V → List V → Hp → VK → Prop} (hs : CallS X (rRecv r) f) (ht : ∀ (H : Hp) (w : OM) (o : Own) (k : Nat) (d : D) (v : V), chk d = true → Ow X.K H w o k d v → ty v H)
    (ho : SA X o m) (ha : SAs X es ms) (hp : ∀ t u, PE X o t → PA X es u → PE X e (fun σ H Q => t σ H fun x H1 => ty x H1 ∧ u σ H1 fun xs H2 => r x xs H2 Q)) : SA X e (mRecv chk f m ms) := by
  obtain ⟨t, p, g⟩ := ho.ex
  obtain ⟨u, q, g2⟩ := ha.ex
  refine ⟨_, hp t u p q, fun n σ H w ρ s ρ' Q ok hm k => ?_⟩
  obtain ⟨⟨s1, ρ1⟩, e1, hm⟩ := R.of_bind hm
  dsimp only at hm
  split at hm
  · rename_i hck
    obtain ⟨c0, hc0, hk⟩ := Option.map_eq_some_iff.mp hck
    obtain ⟨⟨ss, ρ2⟩, e2, hm⟩ := R.of_bind hm
    dsimp only at hm
    split at hm
    · rename_i cs hcs
      obtain ⟨rr, e3, hm⟩ := R.of_bind hm
      cases hm
      refine g n σ H w ρ s1 _ _ ok e1 fun v H1 w1 ok1 st1 sa => ?_
      obtain ⟨o1, _, ow1⟩ := sa.cell ok1 hc0
      refine ⟨ht H1 w1 o1 c0.k c0.d v hk ow1, ?_⟩
      refine g2 (n + 1) σ H1 w1 ρ1 ss _ _ ok1 e2 fun vs H2 w2 ok2 st2 sa2 => ?_
      refine hs n H2 w2 σ _ cs (v :: vs) rr Q ok2 (SrcsAt.cells (n := n) (ss := s1 :: ss) (vs := v :: vs) ok2 ⟨sa.step st2 (Nat.lt_succ_self n), sa2⟩ hcs) e3 fun v3 H3 w3 ok3 st3 q3 => ?_
      exact k v3 H3 w3 ok3 ((st1.trans (st2.mono (Nat.le_succ n))).trans st3) q3
    · cases hm
  · cases hm
def isLstD : D → Bool
  | .lst _ => true
  | _ => false
def isTupD : D → Bool
  | .tup _ => true
  | _ => false
theorem s_indexL : CallS X (rRecv (rIndexD X.K)) fIndexL := s_scalar fun K H w cs vs c Q hK ow e => by
  subst hK
  unfold fIndexL at e
  split at e
  · split at e
    · rename_i l _ c1 hc
      split at e
      · rename_i j hj
        cases e
        rw [Bool.and_eq_true] at hc
        obtain ⟨v, u, o, q, rfl, h1, h2⟩ := ow.two
        obtain ⟨a, xs, rfl, _⟩ := ow_lst h1
        obtain ⟨z, z1, z2, z3⟩ := ixOf_py hj
        refine ⟨_, .int j, rfl, by simp [isSc], fun q => ⟨a, u, c1.d.py, D.pyL l, j, z, rfl, rfl, by have := h1.dp hc.1; rw [D.py] at this; exact this, h2.dp hc.2, by have := D.okd_shaped hc.1; rw [D.py] at this; exact this, D.okd_shaped hc.2, z1, z2, z3, q⟩⟩
      · cases e
    · cases e
  · cases e
theorem s_indexT : CallS X (rRecv (rTIndexD X.K)) fIndexT := s_scalar fun K H w cs vs c Q hK ow e => by
  subst hK
  unfold fIndexT at e
  split at e
  · split at e
    · rename_i l _ c1 hc
      split at e
      · rename_i j hj
        cases e
        rw [Bool.and_eq_true] at hc
        obtain ⟨v, u, o, q, rfl, h1, h2⟩ := ow.two
        obtain ⟨a, xs, rfl, _⟩ := ow_tup h1
        obtain ⟨z, z1, z2, z3⟩ := ixOf_py hj
        refine ⟨_, .int j, rfl, by simp [isSc], fun q => ⟨a, u, c1.d.py, D.pyL l, j, z, rfl, rfl, by have := h1.dp hc.1; rw [D.py] at this; exact this, h2.dp hc.2, by have := D.okd_shaped hc.1; rw [D.py] at this; exact this, D.okd_shaped hc.2, z1, z2, z3, q⟩⟩
      · cases e
    · cases e
  · cases e
def mIndex (m me : AE) : AE := fun ρ => match mRecv isLstD fIndexL m [me] ρ with
  | .ok r => .ok r
  | _ => mRecv isTupD fIndexT m [me] ρ
/-- o.index(e), o a list or a tuple -/
theorem sa_index {o e : Expr} {m me : AE} {apos cpos : Pos} (hu : X.A.units + 65 < cLine) (ho : SA X o m) (he : SA X e me) (hbase : attributeBase o "index" X.env (eval o X.env) = eval o X.env := by rfl)
    (hfew : ((backTo cpos (starEach [e] X.env)).all (fun x => !x.1) && (backToKw cpos (keywordEach [] X.env)).all (fun x => x.1.isSome)
      && decide ([e].length + ([] : List Keyword).length + (if ([] : List Keyword).isEmpty then 0 else 1) < 30)) = true := by rfl)
    (hline : (apos.endLine == cpos.line) = true := by rfl) (hst : starEach [e] X.env = (false, eval e X.env) :: starEach [] X.env := by rfl) (hplain : (backTo cpos (starEach [] X.env)).any (·.1) = false := by rfl) :
    SA X (.Call (.Attribute o "index" apos) [e] [] cpos) (mIndex m me) := by
  refine SA.either (m1 := mRecv isLstD fIndexL m [me]) (m2 := mRecv isTupD fIndexT m [me]) ?_ ?_ fun ρ s ρ' h => ?_
  · refine sa_recv s_indexL (ty := tyV X.K "list") (fun H w o k d v hc ow => ?_) ho (sas_cons he sas_nil hst) fun t u p q => pe_bm PySem.F.plainAttrs_list PySem.F.slot_list_index PySem.F.type_list_index (mt_indexD hu) p q hbase hfew hline hst hplain
    cases d with
    | lst l =>
      obtain ⟨a, xs, rfl, hH, _⟩ := ow_lst ow
      exact .inl ⟨rfl, xs, .inl (.inl hH)⟩
    | _ => cases hc
  · refine sa_recv s_indexT (ty := fun x H => ∃ p, x = .ref p ∧ TupRc X.K H p) (fun H w o k d v hc ow => ?_) ho (sas_cons he sas_nil hst) fun t u p q => pe_tm PySem.F.slot_tuple_index PySem.F.type_tuple_index (mt_tindexD hu) p q hbase hfew hline hst hplain
    cases d with
    | tup l =>
      obtain ⟨a, xs, rfl, ta, _⟩ := ow_tup ow
      exact ⟨a, rfl, ta.rc⟩
    | _ => cases hc
  · unfold mIndex at h
    split at h
    · rename_i r hr
      cases h
      exact .inl hr
    · exact .inr h

end
end Z

/-! Z: what the printed proofs lean on. -/
namespace Z
open PySem PySem.Spec PyProof.Rows L2
theorem u65 {k : Nat} {A : Around} (r : RoomG k A) : A.units + 65 < cLine := by have := r.r.un; omega
theorem u64 {k : Nat} {A : Around} (r : RoomG k A) : A.units + 64 < cLine := by have := r.r.un; omega
theorem u1 {k : Nat} {A : Around} (r : RoomG k A) : A.units + 1 < cLine := by have := r.r.un; omega
def blkB (N : List Str) (sc scope : Scope) (own : List (Str × Nat)) : Bool :=
  decide (scope.kind = .function) && scope.names.all (fun y => decide (scope.names.lookup y.1 = some y.2)) && own.all (fun p => decide (N[p.2]? = some p.1)) &&
  scope.names.all (fun y => !decide (y.2 = .free) || decide (sc.names.lookup y.1 = some .cell) || decide (sc.names.lookup y.1 = some .free)) &&
  scope.names.all (fun y => !(decide (y.2 = .local) || decide (y.2 = .cell)) || decide (y.1 ∈ own.map (·.1)) || decide (y.1 ∉ N))
theorem blk_of {N : List Str} {sc scope : Scope} {own : List (Str × Nat)} (h : blkB N sc scope own = true) : BlkOk N sc scope own := by
  unfold blkB at h
  simp only [Bool.and_eq_true, List.all_eq_true, Bool.or_eq_true, Bool.not_eq_true', decide_eq_true_eq, decide_eq_false_iff_not] at h
  obtain ⟨⟨⟨⟨h1, h2⟩, h3⟩, h4⟩, h5⟩ := h
  refine ⟨h1, h2, h3, fun y hy e => ?_, fun y hy e => ?_⟩
  · rcases h4 y hy with (z | z) | z
    · exact absurd e z
    · exact .inl z
    · exact .inr z
  · rcases h5 y hy with (z | z) | z
    · rcases e with e | e
      · simp [e] at z
      · simp [e] at z
    · exact .inl z
    · exact .inr z
theorem fn_okD {P : Program} {w : World} {K : PySem.W.Frag} {mg : Str → Option Value} {base : Heap} {x qual : Str} {pa : Arguments} {bd : List Stmt} {sc : Scope} {dvs : List V} {kws : List (Str × V)} {f : Addr} {fd : FuncData} {N ps : List Str} {k np size : Nat} {m : MS} (F : FunD K x qual pa bd sc dvs kws f fd) (S : FnScope N ps sc) (hnp : ps.length = np) (hsize : N.length = size)
    (hb : ∀ (cdv : Value) (A : Around) (outer : List PySem.Env) (s : Shared) (H : Hp) (E : XK), RoomG k (A.deeper (envOfC qual sc s.heap.objs.size f cdv)) →
      SSs (cxOf CX0 P w K mg base N qual sc f cdv A outer s H E).nox bd m) : FnOkG P w K mg base CX0 (k + 1) f fd ps (spD K np (runDef size m)) := by
  refine Z.FunD.okG F S (fun vs H Q E h => ?_) (fun cdv A outer s H vs Q E hr h => ?_)
  · obtain ⟨w, args, r, fs, h1, h2, _⟩ := h
    rw [← h2.length, h1, hnp]
  · obtain ⟨w0, args, r, fs, h1, h2, h3, h4, q⟩ := h
    obtain ⟨t, p, g⟩ := (hb cdv A outer s H E hr).ex
    refine ⟨t, p.nox, ?_⟩
    obtain ⟨⟨fl, ρ'⟩, e1, h4⟩ := R.of_bind h4
    obtain ⟨fs', e2, h4⟩ := R.of_bind h4
    have hlv : vs.length = args.length := h2.length.symm
    have hst : ∀ i v, vs[i]? = some v → (L2.start N vs)[i]? = some (some v) := fun i v hv => by
      unfold L2.start
      rw [List.getElem?_append_left (by rw [List.length_map]; exact (List.getElem?_eq_some_iff.mp hv).1), List.getElem?_map, hv]
      rfl
    have ok0 : Ok K H w0 (L2.start N vs) (args.map some ++ List.replicate (size - args.length) none) := by
      refine ⟨?_, fun i c hc => ?_, h3⟩
      · unfold L2.start
        simp only [List.length_append, List.length_map, List.length_replicate]
        rw [hlv, hsize]
      · have hi := env_get_map hc
        obtain ⟨v, hv, ow⟩ := h2.get hi
        rw [Nat.zero_add] at ow
        exact ⟨v, hst i v hv, ow⟩
    refine g 0 (L2.start N vs) H w0 _ (locks 0 args) fl ρ' _ ok0 e1 fun σ' H' w' ok' st' lk => ?_
    have fin := fins_ok (σ := start N vs) ok' (vs := vs) h2.length e2 (fun i v hv => by rw [Nat.zero_add]; exact hst i v hv) (fun i c hc hk => lk _ (locks_mem hc hk))
    cases fl with
    | next =>
      cases h4
      exact q .non H' w' ok'.live st' (.fz .non) fin
    | ret c =>
      cases h4
      exact fun v ow => q v H' w' ok'.live st' ow fin
    | brk => cases h4
    | cont => cases h4
theorem fz_ints {K : PySem.W.Frag} {H : Hp} {w : OM} : ∀ ns : List Int, FzL K H w (ns.map D.int) (ns.map V.int)
  | [] => .nil
  | n :: r => .cons (.int n) (fz_ints r)
/-- the law's answer -/
theorem law_sp {K : PySem.W.Frag} {c : FD} {H : Hp} {a : Addr} {ns : List Int} {fs : List Cell} (hS : SqL K H a (ns.map V.int)) (h : c [⟨.scr (ns.map D.int), 0⟩] = .ok (Cell.fz (.bl true), fs)) : spD K 1 c [.ref a] H (fun v _ => v = .bl true) fun _ _ _ => False := by
  refine ⟨fun _ => .no, [⟨.scr (ns.map D.int), 0⟩], Cell.fz (.bl true), fs, rfl, ⟨?_, trivial⟩, fun _ z => absurd rfl z, h, fun v H' w' _ _ ow _ => ?_⟩
  · refine .fz (.scr ?_ (fz_ints ns))
    rcases hS with h | h
    · exact .inl ⟨h, rfl⟩
    · exact .inr h
  · cases ow with
    | fz f => cases f; rfl
end Z

/-! Z: to compute with the pure functions. -/
namespace Z
open PySem PySem.Spec PyProof.Rows L2
section
variable {L : List Nat} {ρ : Env} {i : Nat}
@[simp] theorem get_z {c : Option Cell} {r : Env} : Env.get (c :: r) 0 = c := rfl
@[simp] theorem get_s {c : Option Cell} {r : Env} {n : Nat} : Env.get (c :: r) (n + 1) = Env.get r n := rfl
@[simp] theorem set_z {c x : Option Cell} {r : Env} : Env.set (c :: r) 0 x = x :: r := rfl
@[simp] theorem set_s {c x : Option Cell} {r : Env} {n : Nat} : Env.set (c :: r) (n + 1) x = c :: Env.set r n x := rfl
@[simp] theorem fz_eq {d : D} : Cell.fz d = ⟨d, 0⟩ := rfl

@[simp] theorem src_v {c : Cell} : Src.cell ρ (.v c) = some c := rfl
@[simp] theorem src_s : Src.cell ρ (.s i) = ρ.get i := rfl
@[simp] theorem aC_ap {d : D} : aC d ρ = .ok (.v (Cell.fz d), ρ) := rfl
theorem aVar_ap : aVar i ρ = (match ρ.get i with | some _ => .ok (.s i, ρ) | none => .bad) := rfl
@[simp] theorem aVar_z {c : Cell} {r : Env} : aVar 0 (some c :: r) = .ok (.s 0, some c :: r) := rfl
@[simp] theorem evs_nil : evs [] ρ = .ok ([], ρ) := rfl
@[simp] theorem evs_cons {m : AE} {ms : List AE} : evs (m :: ms) ρ = (do let (s, ρ1) ← m ρ; let (ss, ρ2) ← evs ms ρ1; R.ok (s :: ss, ρ2)) := rfl
@[simp] theorem cells_nil : cells ρ [] = some [] := rfl
@[simp] theorem cells_cons {s : Src} {ss : List Src} : cells ρ (s :: ss) = (match s.cell ρ, cells ρ ss with | some c, some cs => some (c :: cs) | _, _ => none) := rfl
@[simp] theorem mPrim_ap {f : List Cell → R Cell} {ms : List AE} : mPrim f ms ρ = (do let (ss, ρ1) ← evs ms ρ; match cells ρ1 ss with | some cs => (do let c ← f cs; R.ok (.v c, ρ1)) | none => R.bad) := rfl
@[simp] theorem esc_v {c : Cell} : esc (.v c) ρ = .ok (c, ρ) := rfl
@[simp] theorem esc_s : esc (.s i) ρ = (match ρ.get i with | some ⟨d, 0⟩ => .ok (Cell.fz d, ρ) | some ⟨d, _ + 1⟩ => .ok (Cell.fz d, ρ.set i (some ⟨d, 0⟩)) | none => .bad) := rfl
@[simp] theorem escs_nil : escs [] ρ = .ok ([], ρ) := rfl
@[simp] theorem escs_cons {s : Src} {ss : List Src} : escs (s :: ss) ρ = (do let (c, ρ1) ← esc s ρ; let (ds, ρ2) ← escs ss ρ1; R.ok (c.d :: ds, ρ2)) := rfl
@[simp] theorem mTup_ap {ms : List AE} : mTup ms ρ = (do let (ss, ρ1) ← evs ms ρ; let (ds, ρ2) ← escs ss ρ1; R.ok (.v (Cell.fz (.tup ds)), ρ2)) := rfl
@[simp] theorem mLst_ap {ms : List AE} : mLst ms ρ = (do let (ss, ρ1) ← evs ms ρ; let (ds, ρ2) ← escs ss ρ1; R.ok (.v ⟨.lst ds, 1⟩, ρ2)) := rfl
@[simp] theorem take_v {c : Cell} : take L (.v c) ρ = .ok (c, ρ) := rfl
@[simp] theorem take_s : take L (.s i) ρ = (match ρ.get i with | some ⟨d, 0⟩ => .ok (Cell.fz d, ρ) | some ⟨d, k + 1⟩ => if L.contains i then .ok (Cell.fz d, ρ.set i (some ⟨d, 0⟩)) else .ok (⟨d, k + 1⟩, ρ.set i none) | none => .bad) := rfl
@[simp] theorem mTest_ap {a : AE} : mTest a ρ = (do let (s, ρ1) ← a ρ; match s.cell ρ1 with | some c => (match truth c.d with | some b => R.ok (b, ρ1) | none => R.bad) | none => R.bad) := rfl
@[simp] theorem mNotT_ap {a : MT} : mNotT a ρ = (do let (b, ρ1) ← a ρ; R.ok (!b, ρ1)) := rfl
@[simp] theorem mAndT_ap {a b : MT} : mAndT a b ρ = (do let (c, ρ1) ← a ρ; if c then b ρ1 else R.ok (false, ρ1)) := rfl
@[simp] theorem mOrT_ap {a b : MT} : mOrT a b ρ = (do let (c, ρ1) ← a ρ; if c then R.ok (true, ρ1) else b ρ1) := rfl
@[simp] theorem mNotV_ap {a : AE} : mNotV a ρ = (do let (b, ρ1) ← mTest a ρ; R.ok (.v (Cell.fz (.bl (!b))), ρ1)) := rfl
@[simp] theorem mAndV_ap {a b : AE} : mAndV a b ρ = (do let (s, ρ1) ← a ρ; match s.cell ρ1 with | some ⟨.bl c, _⟩ => if c then b ρ1 else R.ok (.v (Cell.fz (.bl false)), ρ1) | _ => R.bad) := rfl
@[simp] theorem mOrV_ap {a b : AE} : mOrV a b ρ = (do let (s, ρ1) ← a ρ; match s.cell ρ1 with | some ⟨.bl c, _⟩ => if c then R.ok (.v (Cell.fz (.bl true)), ρ1) else b ρ1 | _ => R.bad) := rfl
@[simp] theorem mIfE_ap {t : MT} {a b : AE} : mIfE t a b ρ = (do let (c, ρ1) ← t ρ; if c then a ρ1 else b ρ1) := rfl
@[simp] theorem mSeq_ap {a b : MS} : mSeq a b L ρ = (do let (fl, ρ1) ← a L ρ; match fl with | .next => b L ρ1 | f => R.ok (f, ρ1)) := rfl
@[simp] theorem mNext_ap : mNext L ρ = .ok (.next, ρ) := rfl
@[simp] theorem mBrk_ap : mBrk L ρ = .ok (.brk, ρ) := rfl
@[simp] theorem mCont_ap : mCont L ρ = .ok (.cont, ρ) := rfl
@[simp] theorem mExpr_ap {m : AE} : mExpr m L ρ = (do let (_, ρ1) ← m ρ; R.ok (.next, ρ1)) := rfl
@[simp] theorem mRet_ap {m : AE} : mRet m L ρ = (do let (s, ρ1) ← m ρ; let (c, ρ2) ← take L s ρ1; R.ok (.ret c, ρ2)) := rfl
@[simp] theorem mRetN_ap : mRetN L ρ = .ok (.ret (Cell.fz .non), ρ) := rfl
@[simp] theorem mSet_ap {m : AE} : mSet i m L ρ = (do let (s, ρ1) ← m ρ; let (c, ρ2) ← take L s ρ1; if L.contains i then R.bad else R.ok (.next, ρ2.set i (some c))) := rfl
@[simp] theorem mIf_ap {t : MT} {a b : MS} : mIf t a b L ρ = (do let (c, ρ1) ← t ρ; if c then a L ρ1 else b L ρ1) := rfl
@[simp] theorem gN_ap {d : D} : gN i d L ρ = if L.contains i then .bad else .ok (ρ.set i (some (Cell.fz d))) := rfl
@[simp] theorem mAsg_ap {g : MG} {m : AE} : mAsg g m L ρ = (do let (s, ρ1) ← m ρ; let (c, ρ2) ← esc s ρ1; let ρ3 ← g c.d L ρ2; R.ok (.next, ρ3)) := rfl
@[simp] theorem gT_ap {n : Nat} {gs : List D → List Nat → Env → R Env} {ds : List D} : gT n gs (.tup ds) L ρ = if ds.length = n then gs ds L ρ else .bad := rfl
@[simp] theorem gsNil_ap : gsNil [] L ρ = .ok ρ := rfl
@[simp] theorem gsCons_ap {g : MG} {gs : List D → List Nat → Env → R Env} {d : D} {r : List D} : gsCons g gs (d :: r) L ρ = (do let ρ1 ← g d L ρ; gs r L ρ1) := rfl
@[simp] theorem mFor_ap {mi : MI} {g : MG} {body : MS} : mFor mi g body L ρ = (do let (it, ρ1) ← mi ρ; loopF it g body (match it.chk with | some i => i :: L | none => L) it.items ρ1) := rfl
@[simp] theorem mItems_ap {a : AE} : mItems a ρ = (do
  let (s, ρ1) ← a ρ
  match s with
  | .v c => match itemsOf c.d with
    | some l => R.ok (⟨l, none⟩, ρ1)
    | none => R.bad
  | .s i => match ρ1.get i with
    | some ⟨d, 0⟩ => match itemsOf d with
      | some l => R.ok (⟨l, none⟩, ρ1)
      | none => R.bad
    | some ⟨.lst l, 1⟩ => R.ok (⟨l, some i⟩, ρ1)
    | some ⟨.lst l, 2⟩ => R.ok (⟨l, none⟩, ρ1.set i (some ⟨.lst l, 0⟩))
    | _ => R.bad) := rfl
@[simp] theorem mRange1_ap {a : AE} : mRange1 a ρ = (do
  let (s, ρ1) ← a ρ
  match s.cell ρ1 with
  | some ⟨.int j, _⟩ => if rgB 0 j then R.ok (⟨rgD 0 j, none⟩, ρ1) else R.bad
  | _ => R.bad) := rfl
@[simp] theorem mRange2_ap {a b : AE} : mRange2 a b ρ = (do
  let (s, ρ1) ← a ρ
  let (u, ρ2) ← b ρ1
  match s.cell ρ2, u.cell ρ2 with
  | some ⟨.int i, _⟩, some ⟨.int j, _⟩ => if rgB i j then R.ok (⟨rgD i j, none⟩, ρ2) else R.bad
  | _, _ => R.bad) := rfl
@[simp] theorem mRg1_ap {a : AE} : mRg1 a ρ = (do let (s, ρ1) ← a ρ; match s.cell ρ1 with | some ⟨.int j, _⟩ => R.ok (((0 : Int), j), ρ1) | _ => R.bad) := rfl
@[simp] theorem mListRg_ap {m : Env → R ((Int × Int) × Env)} : mListRg m ρ = (do let (x, ρ1) ← m ρ; if rgOkB x.1 x.2 then R.ok (.v ⟨.lst (rgD x.1 x.2), 1⟩, ρ1) else R.bad) := rfl
@[simp] theorem mTupRg_ap {m : Env → R ((Int × Int) × Env)} : mTupRg m ρ = (do let (x, ρ1) ← m ρ; if rgOkB x.1 x.2 then R.ok (.v (Cell.fz (.tup (rgD x.1 x.2))), ρ1) else R.bad) := rfl
@[simp] theorem mComp_ap {mi : MI} {g : MG} {tt : MT} {me : AE} {vs : List Nat} : mComp mi g tt me vs ρ = (do
  let (it, ρ1) ← mi ρ
  if ownOk ρ1 vs && decide (it.items.length ≤ 16777216) && chkOk it (wipeE ρ1 vs) then do
    let (acc, ρ2) ← loopC it g tt me vs it.items (wipeE ρ1 vs)
    R.ok (.v ⟨.lst acc, 1⟩, restore ρ2 ρ1 vs)
  else R.bad) := rfl
@[simp] theorem mYes_ap : mYes ρ = .ok (true, ρ) := rfl
@[simp] theorem mSetIx_ap {mi mv : AE} : mSetIx i mi mv L ρ = (do
  let (sv, ρ1) ← mv ρ
  let (c, ρ2) ← esc sv ρ1
  match ρ2.get i with
  | some _ => do
    let (si, ρ3) ← mi ρ2
    match si.cell ρ3, ρ3.get i with
    | some ⟨.int k, _⟩, some ⟨.lst l, 1⟩ => match setD l k c.d with
      | some l' => R.ok (.next, ρ3.set i (some ⟨.lst l', 1⟩))
      | none => R.bad
    | some kc, some ⟨.dct ks ds, 1⟩ => if putOk kc.d ks then R.ok (.next, ρ3.set i (some ⟨.dct (dPutK ks kc.d) (dPutV ks ds kc.d c.d), 1⟩)) else R.bad
    | _, _ => R.bad
  | none => R.bad) := rfl
@[simp] theorem mAug_ap {f : List Cell → R Cell} {m : AE} : mAug i f m L ρ = (match ρ.get i with
  | some c0 => do
    let (s, ρ1) ← m ρ
    match s.cell ρ1 with
    | some c => do
      let r ← f [⟨c0.d, 0⟩, c]
      if c0.k = 0 then (if L.contains i then R.bad else R.ok (.next, ρ1.set i (some r))) else R.bad
    | none => R.bad
  | none => R.bad) := rfl
@[simp] theorem mAugIx_ap {mi mv : AE} {f : List Cell → R Cell} : mAugIx i mi f mv L ρ = (match ρ.get i with
  | some _ => do
    let (si, ρ1) ← mi ρ
    match si.cell ρ1, ρ1.get i with
    | some ⟨.int kk, _⟩, some ⟨.lst l, 1⟩ => match atI l kk with
      | some (.int old) => do
        let (sv, ρ2) ← mv ρ1
        match sv.cell ρ2 with
        | some c => do
          let r ← f [⟨.int old, 0⟩, c]
          match r, ρ2.get i with
          | ⟨.int new, _⟩, some ⟨.lst l2, 1⟩ => match setD l2 kk (.int new) with
            | some l' => R.ok (.next, ρ2.set i (some ⟨.lst l', 1⟩))
            | none => R.bad
          | _, _ => R.bad
        | none => R.bad
      | _ => R.bad
    | _, _ => R.bad
  | none => R.bad) := rfl
@[simp] theorem mMeth_ap {f : List D → List D → R (D × List D)} {ms : List AE} : mMeth i f ms ρ = (match ρ.get i with
  | some ⟨.lst _, 1⟩ => do
    let (ss, ρ1) ← evs ms ρ
    let (ds, ρ2) ← escs ss ρ1
    match ρ2.get i with
    | some ⟨.lst l, 1⟩ => do
      let (d, l') ← f l ds
      R.ok (.v (Cell.fz d), ρ2.set i (some ⟨.lst l', 1⟩))
    | _ => R.bad
  | _ => R.bad) := rfl
@[simp] theorem mRecv_ap {chk : D → Bool} {f : List Cell → R Cell} {m : AE} {ms : List AE} : mRecv chk f m ms ρ = (do
  let (s, ρ1) ← m ρ
  match (s.cell ρ1).map (fun c => chk c.d) with
  | some true => do
    let (ss, ρ2) ← evs ms ρ1
    match cells ρ2 (s :: ss) with
    | some cs => do
      let r ← f cs
      R.ok (.v r, ρ2)
    | none => R.bad
  | _ => R.bad) := rfl
@[simp] theorem mCall_ap {f : FD} {ms : List AE} : mCall f ms ρ = (do
  let (ss, ρ1) ← evs ms ρ
  let cs ← args ρ1 ss
  if dupF (ioSlots ρ1 ss) then do
    let (r, fs) ← f cs
    R.ok (.v r, back ρ1 ss fs ρ1)
  else R.bad) := rfl
@[simp] theorem args_nil : args ρ [] = .ok [] := rfl
@[simp] theorem args_cons {s : Src} {ss : List Src} : args ρ (s :: ss) = (do let cs ← args ρ ss; match s.cell ρ with | some c => R.ok (c :: cs) | none => R.bad) := rfl
@[simp] theorem io_nil : ioSlots ρ [] = [] := rfl
@[simp] theorem io_v {c : Cell} {ss : List Src} : ioSlots ρ (.v c :: ss) = ioSlots ρ ss := rfl
@[simp] theorem io_s {ss : List Src} : ioSlots ρ (.s i :: ss) = (match ρ.get i with | some ⟨_, 0⟩ => ioSlots ρ ss | _ => i :: ioSlots ρ ss) := rfl
@[simp] theorem dupF_nil : dupF [] = true := rfl
@[simp] theorem dupF_cons {r : List Nat} : dupF (i :: r) = (!r.contains i && dupF r) := rfl
@[simp] theorem back_nil {ρ0 : Env} {cs : List Cell} : back ρ0 [] cs ρ = ρ := by cases cs <;> rfl
@[simp] theorem back_v {ρ0 : Env} {c c' : Cell} {ss : List Src} {cs : List Cell} : back ρ0 (.v c :: ss) (c' :: cs) ρ = back ρ0 ss cs ρ := rfl
@[simp] theorem back_s {ρ0 : Env} {c' : Cell} {ss : List Src} {cs : List Cell} : back ρ0 (.s i :: ss) (c' :: cs) ρ = (match ρ0.get i with | some ⟨_, 0⟩ => back ρ0 ss cs ρ | _ => back ρ0 ss cs (ρ.set i (some c'))) := rfl
theorem runDef_ap {size : Nat} {m : MS} {as : List Cell} : runDef size m as = (do
  let (fl, ρ) ← m (locks 0 as) (as.map some ++ List.replicate (size - as.length) none)
  let fs ← fins ρ 0 as
  match fl with
  | .ret c => R.ok (c, fs)
  | .next => R.ok (Cell.fz .non, fs)
  | _ => R.bad) := rfl
@[simp] theorem locks_nil {j : Nat} : locks j [] = [] := rfl
@[simp] theorem locks_cons {j : Nat} {c : Cell} {r : List Cell} : locks j (c :: r) = if c.k = 0 then locks (j + 1) r else j :: locks (j + 1) r := rfl
@[simp] theorem fins_nil {j : Nat} : fins ρ j [] = .ok [] := rfl
@[simp] theorem fins_cons {j : Nat} {c : Cell} {r : List Cell} : fins ρ j (c :: r) = (do
    let fs ← fins ρ (j + 1) r
    if c.k = 0 then R.ok (c :: fs) else match ρ.get j with
      | some c' => R.ok (c' :: fs)
      | none => R.bad) := rfl
end
/-! primitives on ints -/
section
variable {i j : Int} {k k' : Nat}
@[simp] theorem p_sub : fSub [⟨.int i, k⟩, ⟨.int j, k'⟩] = .ok (Cell.fz (.int (i - j))) := rfl
@[simp] theorem p_add : fAdd [⟨.int i, k⟩, ⟨.int j, k'⟩] = .ok (Cell.fz (.int (i + j))) := rfl
@[simp] theorem p_iadd : fIAdd [⟨.int i, k⟩, ⟨.int j, k'⟩] = .ok (Cell.fz (.int (i + j))) := rfl
@[simp] theorem p_neg : fNeg [⟨.int i, k⟩] = .ok (Cell.fz (.int (-i))) := rfl
@[simp] theorem p_cmp {p : Int → Int → Bool} : fCmp p [⟨.int i, k⟩, ⟨.int j, k'⟩] = .ok (Cell.fz (.bl (p i j))) := rfl
@[simp] theorem p_int : fInt [⟨.int i, k⟩] = .ok (Cell.fz (.int i)) := rfl
@[simp] theorem p_intB {b : Bool} : fInt [⟨.bl b, k⟩] = .ok (Cell.fz (.int (if b then 1 else 0))) := rfl
@[simp] theorem p_abs : fAbs [⟨.int i, k⟩] = .ok (Cell.fz (.int (if i < 0 then -i else i))) := rfl
theorem p_mul (h : cmul i j = true) : fMul [⟨.int i, k⟩, ⟨.int j, k'⟩] = .ok (Cell.fz (.int (i * j))) := by unfold fMul; simp [h]
theorem p_mulR (h : -(2 ^ 64) < j ∧ j < 2 ^ 64) : fMul [⟨.int i, k⟩, ⟨.int j, k'⟩] = .ok (Cell.fz (.int (i * j))) := p_mul (by unfold cmul; rw [decide_eq_true h]; simp)
theorem p_mulL (h : -(2 ^ 64) < i ∧ i < 2 ^ 64) : fMul [⟨.int i, k⟩, ⟨.int j, k'⟩] = .ok (Cell.fz (.int (i * j))) := p_mul (by unfold cmul; rw [decide_eq_true h]; simp)
theorem p_div (h : 0 < j ∧ j < 4611686018427387904) : fDiv [⟨.int i, k⟩, ⟨.int j, k'⟩] = .ok (Cell.fz (.int (i / j))) := by unfold fDiv fI2; simp [h]
theorem p_pow (h : cpow i j = true) : fPow [⟨.int i, k⟩, ⟨.int j, k'⟩] = .ok (Cell.fz (.int (i ^ j.toNat))) := by unfold fPow fI2; simp [h]
theorem p_shl (h : cpow i j = true) : fShl [⟨.int i, k⟩, ⟨.int j, k'⟩] = .ok (Cell.fz (.int (i * 2 ^ j.toNat))) := by unfold fShl fI2; simp [h]
@[simp] theorem p_band : fBand [⟨.int i, k⟩, ⟨.int j, k'⟩] = .ok (Cell.fz (.int (Builtin.bitAnd i j))) := rfl
theorem p_mod (h : 0 < j) : fMod [⟨.int i, k⟩, ⟨.int j, k'⟩] = .ok (Cell.fz (.int (i % j))) := by unfold fMod fI2; simp [h]
@[simp] theorem truth_bl {b : Bool} : truth (.bl b) = some b := rfl
@[simp] theorem truth_lst {l : List D} : truth (.lst l) = some (!l.isEmpty) := rfl
@[simp] theorem truth_tup {l : List D} : truth (.tup l) = some (!l.isEmpty) := rfl
@[simp] theorem len_tup {l : List D} : fLen [⟨.tup l, k⟩] = .ok (Cell.fz (.int l.length)) := rfl
@[simp] theorem len_lst {l : List D} : fLen [⟨.lst l, k⟩] = .ok (Cell.fz (.int l.length)) := rfl
@[simp] theorem len_scr {l : List D} : fLen [⟨.scr l, k⟩] = .ok (Cell.fz (.int l.length)) := rfl
theorem atI_nat {α : Type} {l : List α} {n : Nat} (h : n < l.length) : atI l (n : Int) = some l[n] := by
  unfold atI ixN
  simp [h]
theorem p_ixL {l : List D} {d : D} (hk : k ≤ 1) (h : atI l i = some d) : fIx [⟨.lst l, k⟩, ⟨.int i, k'⟩] = .ok (Cell.fz d) := by
  show (if k ≤ 1 then _ else _) = _
  rw [if_pos hk, h]
theorem p_ixT {l : List D} {d : D} (h : atI l i = some d) : fIx [⟨.tup l, k⟩, ⟨.int i, k'⟩] = .ok (Cell.fz d) := by
  show (match atI l i with | some d => R.ok (Cell.fz d) | none => .bad) = _
  rw [h]
@[simp] theorem ix_0 {a : D} {r : List D} : atI (a :: r) 0 = some a := by
  unfold atI ixN
  simp
end
/-! ### what comes out -/
def Ret {α : Type} (r : R α) (P : α → Prop) : Prop := ∃ x, r = .ok x ∧ P x
theorem Ret.ok {α : Type} {x : α} {P : α → Prop} (h : P x) : Ret (.ok x) P := ⟨x, rfl, h⟩
@[simp] theorem Ret_ok {α : Type} {x : α} {P : α → Prop} : Ret (.ok x) P ↔ P x := ⟨fun ⟨y, e, h⟩ => by cases e; exact h, Ret.ok⟩
theorem Ret.bind {α β : Type} {r : R α} {f : α → R β} {P : α → Prop} {Q : β → Prop} (h : Ret r P) (k : ∀ x, P x → Ret (f x) Q) : Ret (r >>= f) Q := by
  obtain ⟨x, rfl, hx⟩ := h
  exact k x hx
theorem Ret.mono {α : Type} {r : R α} {P Q : α → Prop} (h : Ret r P) (k : ∀ x, P x → Q x) : Ret r Q := by
  obtain ⟨x, rfl, hx⟩ := h
  exact ⟨x, rfl, k x hx⟩
/-- a comprehension: each datum gives one, or none -/
theorem loopC_inv {it : ItD} {g : MG} {tt : MT} {me : AE} {vs : List Nat} {I : List D → List D → Env → Prop} (h : ∀ d r acc ρ, I (d :: r) acc ρ → Ret (g d [] ρ) fun ρa => Ret (tt ρa) fun x =>
      if x.1 = true then Ret (me x.2) fun y => Ret (esc y.1 y.2) fun z => chkOk it (wipeE z.2 vs) = true ∧ I r (acc ++ [z.1.d]) (wipeE z.2 vs) else chkOk it (wipeE x.2 vs) = true ∧ I r acc (wipeE x.2 vs)) :
    ∀ {ds acc : List D} {ρ : Env}, I ds acc ρ → ∃ out ρ', loopC it g tt me vs ds ρ = .ok (out, ρ') ∧ I [] (acc ++ out) ρ'
  | [], acc, ρ, hI => ⟨[], ρ, rfl, by rw [List.append_nil]; exact hI⟩
  | d :: r, acc, ρ, hI => by
    obtain ⟨ρa, e1, ⟨b, ρb⟩, e2, hx⟩ := h d r acc ρ hI
    unfold loopC
    rw [e1]
    simp only [R.ok_bind]
    rw [e2]
    simp only [R.ok_bind]
    cases b with
    | true =>
      rw [if_pos rfl] at hx
      obtain ⟨⟨s, ρc⟩, e3, ⟨c, ρd⟩, e4, e5, hI2⟩ := hx
      obtain ⟨out, ρ', e6, hI3⟩ := loopC_inv h hI2
      dsimp only at e4
      refine ⟨c.d :: out, ρ', ?_, by simpa using hI3⟩
      simp only [if_true]
      rw [e3]
      simp only [R.ok_bind]
      rw [e4]
      simp only [R.ok_bind]
      rw [if_pos e5, e6]
      rfl
    | false =>
      rw [if_neg (by intro z; cases z)] at hx
      obtain ⟨out, ρ', e6, hI3⟩ := loopC_inv h hx.2
      refine ⟨out, ρ', ?_, hI3⟩
      simp only [Bool.false_eq_true, if_false]
      dsimp only at hx
      rw [if_pos hx.1, e6]
end Z

/-! Z: what the laws draw. -/
namespace Z
open PySem PySem.Spec PyProof.Rows L2
def m_begin : MS := (mSeq (mRet (mLst [(mComp (mItems (aVar 0)) (gN 1) mYes (mPrim fInt [(aVar 1)]) [1]), (aC (.int 0)), (aC (.int 0)), (aC (.int 7))])) mNext)
def c_begin : FD := runDef 2 m_begin
def m_draw : MS := (mSeq (mIf (mTest (mPrim fGt [(mPrim fIx [(aVar 0), (aC (.int 2))]), (aC (.int 0))])) (mSeq (mSet 2 (mPrim fIx [(aVar 0), (aC (.int 2))])) (mSeq (mSetIx 0 (aC (.int 2)) (mPrim fDiv [(aVar 2), (aVar 1)])) (mSeq (mRet (mPrim fMod [(mPrim fInt [(aVar 2)]), (aVar 1)])) mNext))) mNext) (mSeq (mSet 3 (aC (.int 0))) (mSeq (mIf (mTest (mPrim fLt [(mPrim fIx [(aVar 0), (aC (.int 1))]), (mPrim fLen [(mPrim fIx [(aVar 0), (aC (.int 0))])])])) (mSeq (mSet 4 (mPrim fIx [(mPrim fIx [(aVar 0), (aC (.int 0))]), (mPrim fIx [(aVar 0), (aC (.int 1))])])) (mSeq (mSet 3 (mPrim fAdd [(mPrim fMul [(aC (.int 2)), (mPrim fAbs [(aVar 4)])]), (mPrim fInt [(mPrim fLt [(aVar 4), (aC (.int 0))])])])) mNext)) mNext) (mSeq (mAugIx 0 (aC (.int 1)) fIAdd (aC (.int 1))) (mSeq (mIf (mTest (mPrim fGe [(aVar 3), (mPrim fMul [(aC (.int 2)), (mPrim fPow [(aC (.int 10)), (aC (.int 18))])])])) (mSeq (mSet 2 (mPrim fMod [(mPrim fInt [(mPrim fDiv [(aVar 3), (aC (.int 2))])]), (mPrim fShl [(aC (.int 1)), (aC (.int 6000))])])) (mSeq (mSetIx 0 (aC (.int 2)) (mPrim fDiv [(aVar 2), (aVar 1)])) (mSeq (mRet (mPrim fMod [(mPrim fInt [(aVar 2)]), (aVar 1)])) mNext))) mNext) (mSeq (mSetIx 0 (aC (.int 3)) (mPrim fMod [(mPrim fInt [(mPrim fAdd [(mPrim fAdd [(mPrim fAdd [(mPrim fMul [(mPrim fIx [(aVar 0), (aC (.int 3))]), (aC (.int 48271))]), (mPrim fMul [(mPrim fMod [(mPrim fInt [(aVar 3)]), (aC (.int 2147483629))]), (aC (.int 16807))])]), (mPrim fMul [(mPrim fIx [(aVar 0), (aC (.int 1))]), (aC (.int 69621))])]), (aC (.int 11))])]), (aC (.int 2147483647))])) (mSeq (mRet (mPrim fMod [(mPrim fInt [(mPrim fDiv [(mPrim fIx [(aVar 0), (aC (.int 3))]), (aC (.int 16))])]), (aVar 1)])) mNext)))))))
def c_draw : FD := runDef 5 m_draw
def m_pick : MS := (mSeq (mRet (mPrim fIx [(aVar 1), (mCall c_draw [(aVar 0), (mPrim fLen [(aVar 1)])])])) mNext)
def c_pick : FD := runDef 2 m_pick
def m_rare : MS := (mSeq (mRet (mPrim fEq [(mCall c_draw [(aVar 0), (aVar 1)]), (mPrim fDiv [(aVar 1), (aC (.int 2))])])) mNext)
def c_rare : FD := runDef 2 m_rare
def m_shuffled : MS := (mSeq (mSet 2 (mPrim fList [(aVar 1)])) (mSeq (mSet 3 (mLst [])) (mSeq (mFor (mRange1 (mPrim fLen [(aVar 2)])) (gN 4) (mSeq (mExpr (mMeth 3 fAppend [(mMeth 2 fPop1 [(mCall c_draw [(aVar 0), (mPrim fLen [(aVar 2)])])])])) mNext)) (mSeq (mRet (aVar 3)) mNext))))
def c_shuffled : FD := runDef 5 m_shuffled
/-- the state that is drawn from -/
def dS (ns : List Int) (a b e : Int) : Cell := ⟨.lst [.lst (ns.map D.int), .int a, .int b, .int e], 1⟩
def DSt (c : Cell) : Prop := ∃ (ns : List Int) (a b e : Int), c = dS ns a b e ∧ 0 ≤ a ∧ 0 ≤ b ∧ 0 ≤ e
theorem draw_ok {c : Cell} {many : Int} (h : DSt c) (h0 : 0 < many) (h1 : many < 4611686018427387904) : ∃ (n : Int) (c' : Cell), c_draw [c, ⟨.int many, 0⟩] = .ok (⟨.int n, 0⟩, [c', ⟨.int many, 0⟩]) ∧ DSt c' ∧ 0 ≤ n ∧ n < many := by
  obtain ⟨ns, a, b, e, rfl, ha, hb, he⟩ := h
  have hm : ∀ x : Int, 0 ≤ x % many ∧ x % many < many := fun x => ⟨Int.emod_nonneg _ (by omega), Int.emod_lt_of_pos _ h0⟩
  have i1 : ∀ (x y z t : D), atI [x, y, z, t] 1 = some y := fun _ _ _ _ => rfl
  have i2 : ∀ (x y z t : D), atI [x, y, z, t] 2 = some z := fun _ _ _ _ => rfl
  have i3 : ∀ (x y z t : D), atI [x, y, z, t] 3 = some t := fun _ _ _ _ => rfl
  have s1 : ∀ (x y z t u : D), setD [x, y, z, t] 1 u = some [x, u, z, t] := fun _ _ _ _ _ => rfl
  have s2 : ∀ (x y z t u : D), setD [x, y, z, t] 2 u = some [x, y, u, t] := fun _ _ _ _ _ => rfl
  have s3 : ∀ (x y z t u : D), setD [x, y, z, t] 3 u = some [x, y, z, u] := fun _ _ _ _ _ => rfl
  unfold c_draw m_draw
  by_cases hb0 : 0 < b
  · refine ⟨b % many, dS ns a (b / many) e, ?_, ⟨ns, a, b / many, e, rfl, ha, Int.ediv_nonneg hb (by omega), he⟩, hm b⟩
    simp [runDef_ap, dS, Env.get, Env.set, aVar_ap, p_ixL, i1, i2, i3, s1, s2, s3, hb0, p_div, p_mod, h0, h1]
  · have hb1 : b = 0 := by omega
    have c1 : cpow 10 18 = true := rfl
    have c2 : cpow 1 6000 = true := rfl
    have big : (0 : Int) < 2 ^ 6000 := by exact Int.pow_pos (by decide)
    by_cases ha1 : a < ns.length
    · obtain ⟨x, hx⟩ : ∃ x : Int, atI (ns.map D.int) a = some (.int x) := by
        obtain ⟨m, rfl⟩ := Int.eq_ofNat_of_zero_le ha
        refine ⟨ns[m]'(by simpa using ha1), ?_⟩
        rw [atI_nat (by simpa using ha1)]
        simp
      obtain ⟨z, hz, hz0⟩ : ∃ z : Int, z = 2 * (if x < 0 then -x else x) + (if x < 0 then 1 else 0) ∧ 0 ≤ z := ⟨_, rfl, by split <;> omega⟩
      by_cases hs : 2000000000000000000 ≤ z
      · refine ⟨z / 2 % 2 ^ 6000 % many, dS ns (a + 1) (z / 2 % 2 ^ 6000 / many) e, ?_, ⟨ns, _, _, e, rfl, by omega, Int.ediv_nonneg (Int.emod_nonneg _ (by omega)) (by omega), he⟩, hm _⟩
        simp [runDef_ap, dS, Env.get, Env.set, aVar_ap, p_ixL, i1, i2, i3, s1, s2, s3, hb1, p_div, p_mod, p_mulL, p_mulR, p_pow, p_shl, c1, c2, h0, h1, ha1, hx, ← hz, hs, big]
      · refine ⟨((e * 48271 + z % 2147483629 * 16807 + (a + 1) * 69621 + 11) % 2147483647) / 16 % many, dS ns (a + 1) 0 ((e * 48271 + z % 2147483629 * 16807 + (a + 1) * 69621 + 11) % 2147483647), ?_, ⟨ns, _, _, _, rfl, by omega, by omega, Int.emod_nonneg _ (by decide)⟩, hm _⟩
        simp [runDef_ap, dS, Env.get, Env.set, aVar_ap, p_ixL, i1, i2, i3, s1, s2, s3, hb1, p_div, p_mod, p_mulL, p_mulR, p_pow, p_shl, c1, c2, h0, h1, ha1, hx, ← hz, hs, big]
    · have hs : ¬ (2000000000000000000 : Int) ≤ 0 := by decide
      refine ⟨((e * 48271 + 0 % 2147483629 * 16807 + (a + 1) * 69621 + 11) % 2147483647) / 16 % many, dS ns (a + 1) 0 ((e * 48271 + 0 % 2147483629 * 16807 + (a + 1) * 69621 + 11) % 2147483647), ?_, ⟨ns, _, _, _, rfl, by omega, by omega, Int.emod_nonneg _ (by decide)⟩, hm _⟩
      simp [runDef_ap, dS, Env.get, Env.set, aVar_ap, p_ixL, i1, i2, i3, s1, s2, s3, hb1, p_div, p_mod, p_mulL, p_mulR, p_pow, p_shl, c1, c2, h0, h1, ha1,  hs, big]
/-- the script's numbers -/
theorem begin_ok {ns : List Int} (hl : ns.length ≤ 63) : c_begin [⟨.scr (ns.map D.int), 0⟩] = .ok (dS ns 0 0 7, [⟨.scr (ns.map D.int), 0⟩]) := by
  obtain ⟨out, ρ', e, hI⟩ := loopC_inv (it := ⟨ns.map D.int, none⟩) (g := gN 1) (tt := mYes) (me := mPrim fInt [aVar 1]) (vs := [1]) (I := fun l acc ρ => acc ++ l = ns.map D.int ∧ (∀ d ∈ l, ∃ i : Int, d = .int i) ∧ ρ = [some ⟨.scr (ns.map D.int), 0⟩, none])
    (fun d r acc ρ ⟨h1, h2, h3⟩ => by
      obtain ⟨i, rfl⟩ := h2 d (List.mem_cons_self ..)
      subst h3
      simp [aVar_ap, wipeE, chkOk, ← h1]
      exact fun x hx => h2 x (List.mem_cons_of_mem _ hx)) (ds := ns.map D.int) (acc := []) (ρ := [some ⟨.scr (ns.map D.int), 0⟩, none]) ⟨rfl, by simp, rfl⟩
  obtain ⟨h1, _, h3⟩ := hI
  subst h3
  simp only [List.nil_append, List.append_nil] at h1
  subst h1
  have hl : ns.length ≤ 16777216 := by omega
  simp [c_begin, m_begin, runDef_ap, itemsOf, aVar_ap, ownOk, chkOk, wipeE, restore, e, dS, hl]
theorem DSt.k {c : Cell} (h : DSt c) : ∃ l, c = ⟨.lst l, 1⟩ := by
  obtain ⟨ns, a, b, e, rfl, _⟩ := h
  exact ⟨_, rfl⟩
theorem rare_ok {c : Cell} {many : Int} (h : DSt c) (h0 : 0 < many) (h1 : many < 4611686018427387904) : ∃ (b : Bool) (c' : Cell), c_rare [c, ⟨.int many, 0⟩] = .ok (⟨.bl b, 0⟩, [c', ⟨.int many, 0⟩]) ∧ DSt c' := by
  obtain ⟨n, c', e, hc, hn⟩ := draw_ok h h0 h1
  obtain ⟨m, rfl⟩ := h.k
  obtain ⟨m', rfl⟩ := hc.k
  refine ⟨(D.int n).eqv (.int (many / 2)), _, ?_, hc⟩
  simp [c_rare, m_rare, runDef_ap, aVar_ap, e, p_div, fEq, D.okd]
theorem rgB_nat {n : Nat} (h : n ≤ 16777216) : rgB 0 (n : Int) = true := by
  unfold rgB
  rw [decide_eq_true_eq]
  omega
theorem rgD_nat {n : Nat} : rgD 0 (n : Int) = (List.range n).map fun (i : Nat) => D.int (i : Int) := by
  unfold rgD
  simp
end Z

namespace Z
open PySem PySem.Spec PyProof.Rows L2
/-! ### == of scalars -/
theorem f_eqS {x y : Str} {k k' : Nat} (h : D.okd.strOk x = true) (h' : D.okd.strOk y = true) : fEq [⟨.str x, k⟩, ⟨.str y, k'⟩] = .ok ⟨.bl (decide (x = y)), 0⟩ := by
  unfold fEq
  have e : D.eqv (.str x) (.str y) = decide (x = y) := by
    show (x == y) = _
    by_cases q : x = y <;> simp [q]
  simp only [D.okd, h, h', Bool.and_true, if_true, e]
  rfl
@[simp] theorem f_eqI {i j : Int} {k k' : Nat} : fEq [⟨.int i, k⟩, ⟨.int j, k'⟩] = .ok ⟨.bl (decide (i = j)), 0⟩ := by
  unfold fEq
  have e : D.eqv (.int i) (.int j) = decide (i = j) := by
    show (i == j) = _
    by_cases q : i = j <;> simp [q]
  simp only [D.okd, Bool.and_true, if_true, e]
  rfl
/-! ### the computing, with proofs of each step -/
@[simp] theorem isi_str {x : Str} {k : Nat} : fIsi "str" [⟨.str x, k⟩] = .ok ⟨.bl true, 0⟩ := by unfold fIsi; simp [isT]
theorem f_app {l : List D} {d : D} (h : l.length ≤ 10000) : fAppend l [d] = .ok (.non, l ++ [d]) := by
  unfold fAppend
  simp only
  rw [if_pos (by omega)]
theorem f_addL {l m : List D} {k k' : Nat} (hk : k ≤ 1) (hk' : k' ≤ 1) (h : l.length ≤ 10000) (h' : m.length ≤ 10000) : fAdd [⟨.lst l, k⟩, ⟨.lst m, k'⟩] = .ok ⟨.lst (l ++ m), 1⟩ := by
  unfold fAdd
  simp only
  rw [if_pos ⟨hk, hk', by omega⟩]
@[simp] theorem f_listT {l : List D} {k : Nat} : fList [⟨.tup l, k⟩] = .ok ⟨.lst l, 1⟩ := rfl
@[simp] theorem f_tupL1 {l : List D} : fTuple [⟨.lst l, 1⟩] = .ok ⟨.tup l, 0⟩ := rfl
@[simp] theorem ix_1 {a b : D} {r : List D} : atI (a :: b :: r) 1 = some b := by
  have h : 1 < (a :: b :: r).length := by simp
  exact (atI_nat h).trans rfl
@[simp] theorem ix_2 {a b c : D} {r : List D} : atI (a :: b :: c :: r) 2 = some c := by
  have h : 2 < (a :: b :: c :: r).length := by simp
  exact (atI_nat h).trans rfl
@[simp] theorem ix_3 {a b c d : D} {r : List D} : atI (a :: b :: c :: d :: r) 3 = some d := by
  have h : 3 < (a :: b :: c :: d :: r).length := by simp
  exact (atI_nat h).trans rfl

/-- a comprehension without a condition over frozen data: elt is computed from the datum -/
theorem comp_map {g : MG} {me : AE} {vs : List Nat} {ρ0 : Env} {f : D → D} {it : ItD} (hit : it.chk = none) {ds : List D} (h : ∀ d ∈ ds, ∃ ρa s ρc ρd k, g d [] (wipeE ρ0 vs) = .ok ρa ∧ me ρa = .ok (s, ρc) ∧ esc s ρc = .ok (⟨f d, k⟩, ρd) ∧ wipeE ρd vs = wipeE ρ0 vs) :
    loopC it g mYes me vs ds (wipeE ρ0 vs) = .ok (ds.map f, wipeE ρ0 vs) := by
  induction ds with
  | nil => rfl
  | cons d r ih =>
    obtain ⟨ρa, s, ρc, ρd, k, e1, e2, e3, e4⟩ := h d (List.mem_cons_self ..)
    unfold loopC
    have ec : chkOk it (wipeE ρ0 vs) = true := by unfold chkOk; rw [hit]
    rw [e1]
    simp only [R.ok_bind, mYes_ap, if_true]
    rw [e2]
    simp only [R.ok_bind]
    rw [e3]
    simp only [R.ok_bind]
    rw [e4, if_pos ec, ih fun x hx => h x (List.mem_cons_of_mem _ hx)]
    rfl
end Z

/-! Z: calls by keywords. -/
namespace Z
open PySem PySem.Spec PyProof.Rows L2
structure SKs (X : Cx) (kws : List Keyword) (ms : List AE) : Prop where
  ex : ∃ t, PK X kws t ∧ ∀ (n : Nat) (σ : L2.St) (H : Hp) (w : OM) (ρ : Env) (ss : List Src) (ρ' : Env) (Q : List V → Hp → Prop), Ok X.K H w σ ρ → evs ms ρ = .ok (ss, ρ') →
    (∀ vs H' w', Ok X.K H' w' σ ρ' → Step n H w H' w' → SrcsAt X.K H' w' σ n ss vs → Q vs H') → t σ H Q
/-! put in another order -/
def reord {α : Type} (perm : List Nat) (l : List α) : List α := perm.filterMap (l[·]?)
/-- may stand anywhere among the arguments: a slot, or frozen -/
def Src.free : Src → Bool
  | .s _ => true
  | .v c => decide (c.k = 0)
theorem SrcAt.any {K : PySem.W.Frag} {H : Hp} {w : OM} {σ : L2.St} {n m : Nat} {s : Src} {v : V} (h : SrcAt K H w σ n s v) (hf : s.free = true) : SrcAt K H w σ m s v := by
  cases s with
  | s i => exact h
  | v c =>
    obtain ⟨d, k⟩ := c
    cases (of_decide_eq_true hf : k = 0)
    cases (show Ow K H w (.tm n) 0 d v from h) with
    | fz q => exact .fz q
theorem SrcsAt.get {K : PySem.W.Frag} {H : Hp} {w : OM} {σ : L2.St} : ∀ {ss : List Src} {vs : List V} {n i : Nat}, SrcsAt K H w σ n ss vs → (ss[i]? = none ∧ vs[i]? = none) ∨ ∃ s v, ss[i]? = some s ∧ vs[i]? = some v ∧ SrcAt K H w σ (n + i) s v
  | [], [], _, _, _ => .inl ⟨rfl, rfl⟩
  | [], _ :: _, _, _, h => h.elim
  | _ :: _, [], _, _, h => h.elim
  | s :: ss, v :: vs, n, 0, ⟨h, t⟩ => .inr ⟨s, v, rfl, rfl, h⟩
  | s :: ss, v :: vs, n, i + 1, ⟨h, t⟩ => by
    rcases SrcsAt.get (i := i) t with ⟨e1, e2⟩ | ⟨s', v', e1, e2, q⟩
    · exact .inl ⟨by simpa using e1, by simpa using e2⟩
    · exact .inr ⟨s', v', by simpa using e1, by simpa using e2, by rw [show n + (i + 1) = n + 1 + i by omega]; exact q⟩
def mCallKw (f : FD) (perm : List Nat) (np : Nat) (ms : List AE) : AE := fun ρ => do
  let (ss, ρ1) ← evs ms ρ
  let cs ← args ρ1 (reord perm ss)
  if ss.all Src.free && decide ((reord perm ss).length = np) && dupF (ioSlots ρ1 (reord perm ss)) then do
    let (r, fs) ← f cs
    R.ok (.v r, back ρ1 (reord perm ss) fs ρ1)
  else R.bad
@[simp] theorem mCallKw_ap {f : FD} {perm : List Nat} {np : Nat} {ms : List AE} {ρ : Env} : mCallKw f perm np ms ρ = (do
  let (ss, ρ1) ← evs ms ρ
  let cs ← args ρ1 (reord perm ss)
  if ss.all Src.free && decide ((reord perm ss).length = np) && dupF (ioSlots ρ1 (reord perm ss)) then do
    let (r, fs) ← f cs
    R.ok (.v r, back ρ1 (reord perm ss) fs ρ1)
  else R.bad) := rfl
end Z

/-! Z: equality, membership, numbers: what many laws need. -/
namespace Z
open PySem PySem.Spec PyProof.Rows L2
theorem eqvAll_self : ∀ {l : List D}, (∀ d ∈ l, d.eqv d = true) → PyData.eqvAll (D.pyL l) (D.pyL l) = true
  | [], _ => rfl
  | d :: r, h => by
    unfold D.pyL PyData.eqvAll
    rw [Bool.and_eq_true]
    exact ⟨h d (List.mem_cons_self ..), eqvAll_self fun x hx => h x (List.mem_cons_of_mem _ hx)⟩
theorem eqv_self : ∀ (n : Nat) (d : D), d.okd n = true → d.eqv d = true
  | n, .non, _ => rfl
  | n, .bl b, _ => by show (b == b) = true; simp
  | n, .int i, _ => by show (i == i) = true; simp
  | n, .str x, _ => by show (x == x) = true; simp
  | 0, .tup l, h => by cases h
  | 0, .lst l, h => by cases h
  | 0, .scr l, h => by cases h
  | 0, .dct _ _, h => by cases h
  | n + 1, .tup l, h => by
    show PyData.eqvAll (D.pyL l) (D.pyL l) = true
    exact eqvAll_self fun d hd => eqv_self n d (List.all_eq_true.mp h d hd)
  | n + 1, .lst l, h => by
    show PyData.eqvAll (D.pyL l) (D.pyL l) = true
    exact eqvAll_self fun d hd => eqv_self n d (List.all_eq_true.mp h d hd)
  | n + 1, .scr l, h => by
    show PyData.eqvAll (D.pyL l) (D.pyL l) = true
    exact eqvAll_self fun d hd => eqv_self n d (List.all_eq_true.mp h d hd)
  | n + 1, .dct _ _, h => by cases h
theorem f_neSelf {d : D} {k k' : Nat} (h : d.okd 60 = true) : fNe [⟨d, k⟩, ⟨d, k'⟩] = .ok ⟨.bl false, 0⟩ := by
  unfold fNe
  simp only [h, Bool.and_true, if_true, eqv_self 60 d h]
  rfl
/-- numbers of things -/
def nL (ps : List Nat) : List D := ps.map fun (i : Nat) => D.int (i : Int)
def nD (ps : List Nat) : D := .tup (nL ps)
def iL (is : List Int) : List D := is.map D.int
def iD (is : List Int) : D := .tup (iL is)
theorem rgD_nL {n : Nat} : rgD 0 (n : Int) = nL (List.range n) := rgD_nat
/-! ### more of the laws' own small defs -/
def m_is_int : MS := (mSeq (mRet (mAndV (mPrim (fIsi "int") [(aVar 0)]) (mNotV (mPrim (fIsi "bool") [(aVar 0)])))) mNext)
def c_is_int : FD := runDef 1 m_is_int
def m_is_ints : MS := (mSeq (mRet (mAndV (mPrim (fIsi "tuple") [(aVar 0)]) (mPrim fAll [(mComp (mItems (aVar 0)) (gN 1) mYes (mCall c_is_int [(aVar 1)]) [1])]))) mNext)
def c_is_ints : FD := runDef 2 m_is_ints
@[simp] theorem isi_int_int {x : Int} {k : Nat} : fIsi "int" [⟨.int x, k⟩] = .ok ⟨.bl true, 0⟩ := by unfold fIsi; simp [isT]
@[simp] theorem isi_bool_int {x : Int} {k : Nat} : fIsi "bool" [⟨.int x, k⟩] = .ok ⟨.bl false, 0⟩ := by unfold fIsi; simp [isT]
@[simp] theorem isi_tup_tup {x : List D} {k : Nat} : fIsi "tuple" [⟨.tup x, k⟩] = .ok ⟨.bl true, 0⟩ := by unfold fIsi; simp [isT]
theorem is_int_ok {i : Int} : c_is_int [⟨.int i, 0⟩] = .ok (⟨.bl true, 0⟩, [⟨.int i, 0⟩]) := by
  simp -implicitDefEqProofs [c_is_int, m_is_int, runDef_ap, aVar_ap]
theorem is_ints_ok {is : List Int} (hl : is.length ≤ 5000) : c_is_ints [⟨iD is, 0⟩] = .ok (⟨.bl true, 0⟩, [⟨iD is, 0⟩]) := by
  have e := comp_map (g := gN 1) (me := mCall c_is_int [aVar 1]) (vs := [1]) (ρ0 := [some ⟨iD is, 0⟩, none]) (it := ⟨iL is, none⟩) (f := fun _ => .bl true) rfl (ds := iL is) (fun d hd => by
    obtain ⟨i, hi, rfl⟩ := List.mem_map.mp hd
    refine ⟨[some ⟨iD is, 0⟩, some ⟨.int i, 0⟩], .v ⟨.bl true, 0⟩, [some ⟨iD is, 0⟩, some ⟨.int i, 0⟩], [some ⟨iD is, 0⟩, some ⟨.int i, 0⟩], 0, ?_, ?_, rfl, ?_⟩
    · simp [wipeE]
    · simp -implicitDefEqProofs [aVar_ap, is_int_ok]
    · simp [wipeE])
  have ea : fAll [⟨.lst ((iL is).map fun _ => D.bl true), 1⟩] = .ok ⟨.bl true, 0⟩ := by
    have : ∀ l : List D, asBls (l.map fun _ => D.bl true) = some (l.map fun _ => true) := fun l => by
      induction l with
      | nil => rfl
      | cons a r ih => rw [List.map_cons, asBls, ih]; rfl
    unfold fAll onBls
    simp only [this]
    simp
  have hl2 : (iL is).length ≤ 16777216 := by unfold iL; simp; omega
  unfold iD at *
  simp [wipeE] at e
  simp -implicitDefEqProofs [c_is_ints, m_is_ints, runDef_ap, aVar_ap, itemsOf, ownOk, chkOk, hl2, wipeE, e, restore, ea]
end Z

/-! ZG1: tuples of numbers and of such tuples, in their order. -/
namespace Z
open PySem PySem.Spec PyProof.Rows L2
@[reducible] def iOrd : KeyOrd where
  α := Int
  blt := fun a b => decide (a < b)
  irrefl a := by simp
  trans a b c h1 h2 := by
    have := of_decide_eq_true h1
    have := of_decide_eq_true h2
    exact decide_eq_true (by omega)
  negTrans a b c h := by
    have h' := of_decide_eq_true h
    by_cases hab : a < b
    · exact .inl (decide_eq_true hab)
    · exact .inr (decide_eq_true (show b < c by omega))
  total a b h1 h2 := by
    have h1' := of_decide_eq_false h1
    have h2' := of_decide_eq_false h2
    show a = b
    omega
/-! the tokens of a key: before each item of a tuple 1, behind the last 0 -/
mutual
def enc : NestedKey → List Int
  | .num i => [i]
  | .tup l => encL l
  | .none => [0]
  | .text _ => [0]
def encL : List NestedKey → List Int
  | [] => [0]
  | k :: r => 1 :: (enc k ++ encL r)
end
/-- shapes: a number; a tuple of any length of things of one shape; a tuple with a shape for each place -/
inductive Shp where
  | num | seq (s : Shp) | fix (l : List Shp)
mutual
def Shp.fits : Shp → NestedKey → Bool
  | .num, .num _ => true
  | .seq s, .tup l => l.all fun k => s.fits k
  | .fix ss, .tup l => Shp.fitsL ss l
  | _, _ => false
def Shp.fitsL : List Shp → List NestedKey → Bool
  | [], [] => true
  | s :: ss, k :: l => s.fits k && Shp.fitsL ss l
  | _, _ => false
end
abbrev lx : List Int → List Int → Bool := lexLt iOrd
theorem lx_app (a r t : List Int) : lx (a ++ r) (a ++ t) = lx r t := by
  induction a with
  | nil => rfl
  | cons x a ih => rw [List.cons_append, List.cons_append]; exact (lex_self (O := iOrd) x _ _).trans ih
/-- two lists of keys, place by place of one shape -/
inductive Al : List NestedKey → List NestedKey → Prop
  | nil {l : List NestedKey} : Al [] l
  | nil' {l : List NestedKey} : Al l []
  | cons {s : Shp} {k j : NestedKey} {l m : List NestedKey} : s.fits k = true → s.fits j = true → Al l m → Al (k :: l) (j :: m)
theorem al_seq {s : Shp} : ∀ {l m : List NestedKey}, (l.all fun k => s.fits k) = true → (m.all fun k => s.fits k) = true → Al l m
  | [], _, _, _ => .nil
  | _ :: _, [], _, _ => .nil'
  | k :: l, j :: m, h1, h2 => by
    simp only [List.all_cons, Bool.and_eq_true] at h1 h2
    exact .cons h1.1 h2.1 (al_seq h1.2 h2.2)
theorem al_fix : ∀ {ss : List Shp} {l m : List NestedKey}, Shp.fitsL ss l = true → Shp.fitsL ss m = true → Al l m
  | _, [], _, _, _ => .nil
  | _, _ :: _, [], _, _ => .nil'
  | [], _ :: _, _ :: _, h, _ => by simp [Shp.fitsL] at h
  | s :: ss, k :: l, j :: m, h1, h2 => by
    simp only [Shp.fitsL, Bool.and_eq_true] at h1 h2
    exact .cons h1.1 h2.1 (al_fix h1.2 h2.2)
theorem fits_cases {s : Shp} {x y : NestedKey} (h1 : s.fits x = true) (h2 : s.fits y = true) : (∃ i j, x = .num i ∧ y = .num j) ∨ ∃ l m, x = .tup l ∧ y = .tup m ∧ Al l m := by
  cases s with
  | num => cases x <;> simp [Shp.fits] at h1; cases y <;> simp [Shp.fits] at h2; exact .inl ⟨_, _, rfl, rfl⟩
  | seq s => cases x <;> simp [Shp.fits] at h1; cases y <;> simp [Shp.fits] at h2; exact .inr ⟨_, _, rfl, rfl, al_seq (by simpa using h1) (by simpa using h2)⟩
  | fix ss => cases x <;> simp [Shp.fits] at h1; cases y <;> simp [Shp.fits] at h2; exact .inr ⟨_, _, rfl, rfl, al_fix h1 h2⟩
mutual
theorem lx_enc : ∀ (x y : NestedKey) {s : Shp} {r t : List Int}, s.fits x = true → s.fits y = true → x ≠ y → lx (enc x ++ r) (enc y ++ t) = lx (enc x) (enc y)
  | .num i, y, s, r, t, h1, h2, hne => by
    rcases fits_cases h1 h2 with ⟨a, b, e1, e2⟩ | ⟨l, m, e1, _⟩
    · cases e1
      subst e2
      have hab : i ≠ b := fun e => hne (by rw [e])
      simp only [enc, List.singleton_append]
      rw [show lx (i :: r) (b :: t) = _ from lex_diff (O := iOrd) hab, show lx [i] [b] = _ from lex_diff (O := iOrd) hab]
    · cases e1
  | .tup l, y, s, r, t, h1, h2, hne => by
    rcases fits_cases h1 h2 with ⟨a, b, e1, _⟩ | ⟨l', m, e1, e2, al⟩
    · cases e1
    · cases e1
      subst e2
      simp only [enc]
      exact lx_encL l m al (fun e => hne (by rw [e]))
  | .none, y, s, r, t, h1, h2, hne => by
    rcases fits_cases h1 h2 with ⟨a, b, e1, _⟩ | ⟨l', m, e1, _⟩ <;> cases e1
  | .text _, y, s, r, t, h1, h2, hne => by
    rcases fits_cases h1 h2 with ⟨a, b, e1, _⟩ | ⟨l', m, e1, _⟩ <;> cases e1
theorem lx_encL : ∀ (l m : List NestedKey) {r t : List Int}, Al l m → l ≠ m → lx (encL l ++ r) (encL m ++ t) = lx (encL l) (encL m)
  | [], [], _, _, _, hne => absurd rfl hne
  | [], j :: m, r, t, _, _ => by
    simp only [encL, List.singleton_append, List.cons_append, List.nil_append]
    rw [show lx (0 :: r) (1 :: _) = _ from lex_diff (O := iOrd) (by decide), show lx [0] (1 :: _) = _ from lex_diff (O := iOrd) (by decide)]
  | k :: l, [], r, t, _, _ => by
    simp only [encL, List.singleton_append, List.cons_append, List.nil_append]
    rw [show lx (1 :: _) (0 :: t) = _ from lex_diff (O := iOrd) (by decide), show lx (1 :: _) [0] = _ from lex_diff (O := iOrd) (by decide)]
  | k :: l, j :: m, r, t, al, hne => by
    cases al with
    | cons h1 h2 al =>
      simp only [encL, List.cons_append, List.append_assoc]
      rw [show lx (1 :: _) (1 :: _) = _ from lex_self (O := iOrd) 1 _ _, show lx (1 :: (enc k ++ encL l)) (1 :: _) = _ from lex_self (O := iOrd) 1 _ _]
      by_cases e : k = j
      · subst e
        rw [show lexLt iOrd _ _ = _ from lx_app (enc k) _ _, show lexLt iOrd (enc k ++ encL l) (enc k ++ encL m) = _ from lx_app (enc k) _ _]
        exact lx_encL l m al (fun e => hne (by rw [e]))
      · rw [show lexLt iOrd _ _ = _ from lx_enc k j h1 h2 e, show lexLt iOrd (enc k ++ encL l) (enc j ++ encL m) = _ from lx_enc k j h1 h2 e]
end
/-- the order of two tuples, place by place -/
theorem lx_lexAt : ∀ (l m : List NestedKey), Al l m → Ob.lexAt (fun j => NestedKey.beq (l.getD j .none) (m.getD j .none)) (fun j => lx (enc (l.getD j .none)) (enc (m.getD j .none))) (decide (l.length < m.length)) 0 (min l.length m.length) = lx (encL l) (encL m)
  | [], [], _ => by simp [Ob.lexAt_zero, encL, lx]; exact (lex_irrefl (O := iOrd) [0]).symm
  | [], j :: m, _ => by
    simp only [List.length_nil, Nat.zero_min, Ob.lexAt_zero, encL]
    rw [show lx [0] (1 :: _) = _ from lex_diff (O := iOrd) (by decide)]
    simp
  | k :: l, [], _ => by
    simp only [List.length_nil, Nat.min_zero, Ob.lexAt_zero, encL]
    rw [show lx (1 :: _) [0] = _ from lex_diff (O := iOrd) (by decide)]
    simp
  | k :: l, j :: m, al => by
    cases al with
    | cons h1 h2 al =>
      have ih := lx_lexAt l m al
      rw [List.length_cons, List.length_cons, Nat.add_min_add_right, Ob.lexAt_succ]
      have sh : ∀ {e r : Nat → Bool} {z : Bool} (k i : Nat), Ob.lexAt e r z (i + 1) k = Ob.lexAt (fun j => e (j + 1)) (fun j => r (j + 1)) z i k := by
        intro e r z k
        induction k with
        | zero => intro i; rfl
        | succ k ih => intro i; rw [Ob.lexAt_succ, Ob.lexAt_succ, ih]
      rw [sh]
      simp only [List.getD_cons_zero, List.getD_cons_succ, Nat.add_lt_add_iff_right]
      rw [ih]
      simp only [encL]
      rw [show lx (1 :: (enc k ++ encL l)) (1 :: _) = _ from lex_self (O := iOrd) 1 _ _]
      by_cases e : k = j
      · subst e
        rw [NestedKey.beq_self, if_pos rfl, show lexLt iOrd (enc k ++ encL l) (enc k ++ encL m) = _ from lx_app (enc k) _ _]
      · have hb : NestedKey.beq k j = false := by
          cases q : NestedKey.beq k j with
          | false => rfl
          | true => exact absurd (NestedKey.eq_of_beq _ _ q) e
        rw [hb, show lexLt iOrd (enc k ++ encL l) (enc j ++ encL m) = _ from lx_enc k j h1 h2 e]
        rfl
/-! ### keys of numbers alone, in the heap -/
mutual
inductive NIs (h : Heap) : NestedKey → Value → Prop
  | int (i : Int) (t : Tok) : NIs h (.num i) (.int i t)
  | tup {a : Addr} {o : Obj} {vs : Array Value} {n : Nat} {ks : List NestedKey} : h.get? a = some o → o.cls = .type "tuple" → o.data = .seq vs n → NAll h ks vs.toList → NIs h (.tup ks) (.ref a)
inductive NAll (h : Heap) : List NestedKey → List Value → Prop
  | nil : NAll h [] []
  | cons {k : NestedKey} {v : Value} {ks : List NestedKey} {vs : List Value} : NIs h k v → NAll h ks vs → NAll h (k :: ks) (v :: vs)
end
mutual
theorem NIs.nested {h : Heap} : ∀ {k : NestedKey} {v : Value}, NIs h k v → NestedIs h k v
  | _, _, .int i t => .int i t
  | _, _, .tup h1 h2 h3 h4 => .tup h1 h2 h3 (NAll.nested h4)
theorem NAll.nested {h : Heap} : ∀ {ks : List NestedKey} {vs : List Value}, NAll h ks vs → NestedAll h ks vs
  | _, _, .nil => .nil
  | _, _, .cons x xs => .cons (NIs.nested x) (NAll.nested xs)
end
mutual
theorem NIs.keep {h h' : Heap} (hk : ∀ b o, h.get? b = some o → o.cls = .type "tuple" → h'.get? b = some o) : ∀ {k : NestedKey} {v : Value}, NIs h k v → NIs h' k v
  | _, _, .int i t => .int i t
  | _, _, .tup h1 h2 h3 h4 => .tup (hk _ _ h1 h2) h2 h3 (NAll.keep hk h4)
theorem NAll.keep {h h' : Heap} (hk : ∀ b o, h.get? b = some o → o.cls = .type "tuple" → h'.get? b = some o) : ∀ {ks : List NestedKey} {vs : List Value}, NAll h ks vs → NAll h' ks vs
  | _, _, .nil => .nil
  | _, _, .cons x xs => .cons (NIs.keep hk x) (NAll.keep hk xs)
end
theorem NIs.inj {h : Heap} {x y : NestedKey} {v : Value} (a : NIs h x v) (b : NIs h y v) : x = y := NestedIs.inj _ _ _ a.nested b.nested
theorem NAll.len {h : Heap} : ∀ {ks : List NestedKey} {vs : List Value}, NAll h ks vs → ks.length = vs.length
  | _, _, .nil => rfl
  | _, _, .cons _ xs => by rw [List.length_cons, List.length_cons, xs.len]
section
open SeqAt
theorem nest_getD {h : Heap} : ∀ {ks : List NestedKey} {vs : List Value} {j : Nat}, NAll h ks vs → (hj : j < vs.length) → NIs h (ks.getD j .none) vs[j]
  | _, _, _, .nil, hj => absurd hj (Nat.not_lt_zero _)
  | _, _, 0, .cons x _, _ => x
  | _, _, j + 1, .cons _ xs, hj => by simpa using nest_getD (j := j) xs (by simpa using hj)
theorem depth_getD : ∀ {ks : List NestedKey} {j n : Nat}, NestedKey.depthAll ks ≤ n → (ks.getD j .none).depth ≤ n
  | [], j, n, _ => by simp [NestedKey.depth]
  | k :: ks, 0, n, h => by simp only [NestedKey.depthAll] at h; simp only [List.getD_cons_zero]; omega
  | k :: ks, j + 1, n, h => by simp only [NestedKey.depthAll] at h; rw [List.getD_cons_succ]; exact depth_getD (by omega)
theorem al_getD : ∀ {l m : List NestedKey} {j : Nat}, Al l m → j < l.length → j < m.length → ∃ s : Shp, s.fits (l.getD j .none) = true ∧ s.fits (m.getD j .none) = true
  | _, _, j, .nil, h, _ => absurd h (Nat.not_lt_zero _)
  | _, _, j, .nil', _, h => absurd h (Nat.not_lt_zero _)
  | _, _, 0, .cons h1 h2 _, _, _ => ⟨_, h1, h2⟩
  | _, _, j + 1, .cons _ _ t, h, h' => by simpa using al_getD (j := j) t (by simpa using h) (by simpa using h')
theorem in1_units {A : Around} : A.in1.units = A.units + 1 := rfl
/-- x < y of keys of one shape -/
theorem rc_lt : ∀ (n : Nat) {A : Around} {s : Shared} {sh : Shp} {x y : NestedKey} {a b : Value}, x.depth ≤ n → y.depth ≤ n → sh.fits x = true → sh.fits y = true → NIs s.heap x a → NIs s.heap y b → A.units + n < cLine → Ob.RcOp .Lt A s a b (lx (enc x) (enc y)) := by
  intro n
  induction n with
  | zero =>
    intro A s sh x y a b d1 d2 f1 f2 i1 i2 hu
    rcases fits_cases f1 f2 with ⟨i, j, rfl, rfl⟩ | ⟨l, m, rfl, rfl, al⟩
    · cases i1
      cases i2
      have e : lx (enc (.num i)) (enc (.num j)) = decide (i < j) := by
        by_cases hij : i = j
        · subst hij
          simp only [enc]
          rw [show lx [i] [i] = _ from lex_irrefl (O := iOrd) [i]]
          simp
        · simp only [enc]
          rw [show lx [i] [j] = _ from lex_diff (O := iOrd) hij]
      rw [e]
      exact Ob.RcOp.lt_int _ _ _ _
    · simp [NestedKey.depth] at d1
  | succ n ih =>
    intro A s sh x y a b d1 d2 f1 f2 i1 i2 hu
    rcases fits_cases f1 f2 with ⟨i, j, rfl, rfl⟩ | ⟨l, m, rfl, rfl, al⟩
    · exact ih (by simp [NestedKey.depth]) (by simp [NestedKey.depth]) f1 f2 i1 i2 (by omega)
    · simp only [NestedKey.depth] at d1 d2
      cases i1 with
      | tup g1 c1 e1 n1 =>
        cases i2 with
        | tup g2 c2 e2 n2 =>
          rename_i va na b' o' vb nb
          have hl1 : l.length = va.size := n1.len.trans (Array.length_toList ..)
          have hl2 : m.length = vb.size := n2.len.trans (Array.length_toList ..)
          have key := Ob.RcOp.tuples_lt (A := A) (s := s) (e := fun j => NestedKey.beq (l.getD j .none) (m.getD j .none)) (r := fun j => lx (enc (l.getD j .none)) (enc (m.getD j .none))) (l := _) (b := _) (items := va) (items2 := vb) ⟨_, g1, c1, _, e1⟩ ⟨_, g2, c2, _, e2⟩ (by omega) (fun j h1 h2 => ?_) (fun j h1 h2 _ => ?_)
          · rw [← hl1, ← hl2, lx_lexAt l m al] at key
            simp only [enc]
            exact key
          · have x1 := nest_getD n1 (j := j) (by simpa using h1)
            have x2 := nest_getD n2 (j := j) (by simpa using h2)
            have q1 := depth_getD (ks := l) (j := j) (n := n) (by omega)
            exact eqAt_key _ _ _ _ _ _ (by simpa using x1.nested) (by simpa using x2.nested) (by rw [in1_units]; omega)
          · have x1 := nest_getD n1 (j := j) (by simpa using h1)
            have x2 := nest_getD n2 (j := j) (by simpa using h2)
            have q1 := depth_getD (ks := l) (j := j) (n := n) (by omega)
            have q2 := depth_getD (ks := m) (j := j) (n := n) (by omega)
            obtain ⟨sh', f1', f2'⟩ := al_getD (j := j) al (by omega) (by omega)
            exact ih q1 q2 f1' f2' (by simpa using x1) (by simpa using x2) (by rw [in1_units]; omega)
section
variable {prog : Program} {w : World} {A : Around} {E : Value → Shared → Prop} {s : Shared}
open PySem.W in
theorem kat_keys {b : Bool} {Q : Bool → Shared → Prop} {n : Nat} (hu : A.units + n < cLine) : ∀ (l m : List NestedKey) (ps qs : List Value) (i : Nat), Al l m → NAll s.heap l ps → NAll s.heap m qs → NestedKey.depthAll l ≤ n → NestedKey.depthAll m ≤ n →
    (b = true → i = 0 → ∀ k j l' m', l = k :: l' → m = j :: m' → (∃ x, k = .num x) ∧ ∃ y, j = .num y) → Q (lx (encL l) (encL m)) s → KatLex prog w A b (decide (ps.length < qs.length)) Q (ps.zip qs) i s
  | [], [], _, _, i, _, .nil, .nil, _, _, _, h => kat_nil (by
      have e : lx (encL []) (encL []) = false := lex_irrefl (O := iOrd) _
      rw [e] at h
      simpa using h)
  | [], j :: m, _, _, i, _, .nil, .cons _ _, _, _, _, h => kat_nil (by
      have e : lx (encL []) (encL (j :: m)) = true := by
        simp only [encL]
        rw [show lx [0] (1 :: _) = _ from lex_diff (O := iOrd) (by decide)]
        rfl
      rw [e] at h
      simpa using h)
  | k :: l, [], _, _, i, _, .cons _ _, .nil, _, _, _, h => kat_nil (by
      have e : lx (encL (k :: l)) (encL []) = false := by
        simp only [encL]
        rw [show lx (1 :: _) [0] = _ from lex_diff (O := iOrd) (by decide)]
        rfl
      rw [e] at h
      simpa using h)
  | k :: l, j :: m, p :: ps, q :: qs, i, al, .cons x1 y1, .cons x2 y2, d1, d2, hb, h => by
    cases al with
    | cons f1 f2 al =>
      simp only [NestedKey.depthAll] at d1 d2
      have es : decide ((p :: ps).length < (q :: qs).length) = decide (ps.length < qs.length) := by simp
      rw [es]
      simp only [encL] at h
      rw [show lx (1 :: (enc k ++ encL l)) (1 :: _) = _ from lex_self (O := iOrd) 1 _ _] at h
      show KatLex prog w A b _ Q ((p, q) :: ps.zip qs) i s
      refine kat_cons (eqAt_key _ _ A s _ _ x1.nested x2.nested (by omega) prog w _ _ ?_)
      refine kat_go (fun e => ?_) (fun e => ?_)
      · have hkj := NestedKey.eq_of_beq _ _ e
        subst hkj
        rw [show lexLt iOrd (enc k ++ encL l) (enc k ++ encL m) = _ from lx_app (enc k) _ _] at h
        exact kat_yes (kat_keys hu l m ps qs (i + 1) al y1 y2 (by omega) (by omega) (fun _ z => absurd z (Nat.succ_ne_zero _)) h)
      · have hne : k ≠ j := fun z => by
          rw [z, NestedKey.beq_self] at e
          cases e
        rw [show lexLt iOrd (enc k ++ encL l) (enc j ++ encL m) = _ from lx_enc k j f1 f2 hne] at h
        refine kat_no ?_
        cases hbi : (b && i == 0) with
        | true =>
          rw [Bool.and_eq_true] at hbi
          obtain ⟨⟨x, rfl⟩, y, rfl⟩ := hb hbi.1 (by simpa using hbi.2) k j l m rfl rfl
          cases x1
          cases x2
          have ex : x ≠ y := fun z => hne (by rw [z])
          simp only [enc] at h
          rw [show lx [x] [y] = _ from lex_diff (O := iOrd) ex] at h
          exact oneLt_int h
        | false =>
          have hr := rc_lt n (A := A) (s := s) (by omega) (by omega) f1 f2 x1 x2 hu
          exact kat_one _ _ (hr prog w _ _ h)
/-- all items are tuples of one shape that begin with a number, or all with a tuple -/
structure KeyIn (h : Heap) (sh : Shp) (num : Bool) (k : NestedKey) (v : Value) : Prop where
  is : NIs h k v
  fit : sh.fits k = true
  dep : k.depth ≤ 9
  first : ∃ x l, k = .tup (x :: l) ∧ ((num = true ∧ ∃ i, x = .num i) ∨ (num = false ∧ ∃ t, x = .tup t))
theorem KeyIn.keep {h h' : Heap} {sh : Shp} {num : Bool} {k : NestedKey} {v : Value} (x : KeyIn h sh num k v) (hk : ∀ b o, h.get? b = some o → o.cls = .type "tuple" → h'.get? b = some o) : KeyIn h' sh num k v := ⟨x.is.keep hk, x.fit, x.dep, x.first⟩
theorem firsts_k {h : Heap} {sh : Shp} {num : Bool} {k : Value → NestedKey} : ∀ {vs : List Value}, (∀ v ∈ vs, KeyIn h sh num (k v) v) → ∃ fs : List Value, PySem.W.KatTups h vs fs ∧ fs.length = vs.length ∧ ∀ f ∈ fs, (num = true ∧ ∃ i t, f = .int i t) ∨ (num = false ∧ ∃ (q : Addr) (o : Obj), f = Value.ref q ∧ h.get? q = some o ∧ o.cls = .type "tuple")
  | [], _ => ⟨[], PySem.W.KatTups.nil, rfl, fun f hf => by simp at hf⟩
  | v :: vs, x => by
    obtain ⟨fs, kt, hl, hi⟩ := firsts_k (vs := vs) fun u hu => x u (List.mem_cons_of_mem _ hu)
    have hv := x v (List.mem_cons_self ..)
    obtain ⟨y, l, e, hy⟩ := hv.first
    have his := hv.is
    rw [e] at his
    cases his with
    | tup g c d n =>
      rename_i a o arr nn
      generalize hal : arr.toList = al at n
      cases n with
      | cons x1 y1 =>
        rename_i f fr
        have h0 : arr[0]? = some f := by rw [← Array.getElem?_toList, hal]; rfl
        refine ⟨f :: fs, PySem.W.KatTups.cons g c d h0 kt, by rw [List.length_cons, List.length_cons, hl], fun z hz => ?_⟩
        rcases List.mem_cons.mp hz with rfl | hz
        · rcases hy with ⟨h1, i, rfl⟩ | ⟨h1, t, rfl⟩
          · cases x1; exact .inl ⟨h1, _, _, rfl⟩
          · cases x1 with
            | tup g' c' _ _ => exact .inr ⟨h1, _, _, rfl, g', c'⟩
        · exact hi z hz
theorem swo_keys (k : Value → NestedKey) : SrtO.Swo fun v u => lx (enc (k v)) (enc (k u)) := by
  refine ⟨fun x y h => ?_, fun x y z h1 h2 => ?_⟩
  · cases q : lx (enc (k y)) (enc (k x)) with
    | false => rfl
    | true =>
      have := lex_trans (O := iOrd) _ _ _ h q
      rw [lex_irrefl] at this
      cases this
  · cases q : lx (enc (k z)) (enc (k x)) with
    | false => rfl
    | true =>
      rcases lex_negTrans (O := iOrd) _ (enc (k y)) _ q with r | r
      · rw [show lexLt iOrd (enc (k z)) (enc (k y)) = _ from h2] at r; cases r
      · rw [show lexLt iOrd (enc (k y)) (enc (k x)) = _ from h1] at r; cases r
theorem sorted_keysO {l : Addr} {vs : List Value} {k : Value → NestedKey} {sh : Shp} {num : Bool} {Q : Value → Shared → Prop} (hu : A.units + 20 < cLine) (hl : s.heap.IsList l vs.toArray) (hz : vs.length ≤ sizeLine) (hp : ∀ v ∈ vs, KeyIn s.heap sh num (k v) v)
    (h : ∀ (h' : Heap) (d : Addr) (out : List Value), SrtO.Srtd (fun v u => lx (enc (k v)) (enc (k u))) out → SrtO.Stb (fun v u => lx (enc (k v)) (enc (k u))) out vs → (∀ b o, s.heap.get? b = some o → h'.get? b = some o) → s.heap.objs.size ≤ d → (∃ n, h'.get? d = some (seqObj "list" out.toArray n)) → Q (.ref d) { s with heap := h' }) :
    wpAny (model prog w) A (call (.builtin "sorted") [.ref l]) Q E s := by
  refine SrtO.sorted_ord (swo_keys k) hl hz (fun h2 h₁ a ha kk => ?_) fun out hs hb => ?_
  · intro h' keep
    have hcls : ∀ b o, h₁.get? b = some o → o.cls = .type "tuple" → b ≠ a := fun b o e c z => by
      subst z
      have e' : some o = some (seqObj "list" vs.toArray 0) := e.symm.trans ha
      cases e'
      exact absurd (Value.type.inj c) (by decide)
    have hp' : ∀ v ∈ vs, KeyIn h' sh num (k v) v := fun v hm => ((hp v hm).keep fun b o e _ => (kk b o e).2).keep fun b o e c => keep b o (hcls b o e c) e
    obtain ⟨fs, f1, f2, f3⟩ := firsts_k hp'
    have u2 : A.in1.in1.units = A.units + 2 := rfl
    refine ⟨tuples' num, fun Q E hq => ?_, fun p q hm hm' => ?_⟩
    · cases hn : num with
      | true =>
        subst hn
        refine PySem.W.kat_kind (T := .type "int") f1 (by omega) (fun f hm => ?_) (by rfl) ?_
        · rcases f3 f hm with ⟨_, i, t, rfl⟩ | ⟨h0, _⟩
          · exact PySem.W.Looks.now
          · cases h0
        · have e : (Value.type "int" != Value.type "tuple") = true := by first | decide +kernel | rfl | decide
          rw [e]
          exact hq
      | false =>
        subst hn
        refine PySem.W.kat_kind (T := .type "tuple") f1 (by omega) (fun f hm => ?_) (by rfl) ?_
        · rcases f3 f hm with ⟨h0, _⟩ | ⟨_, q, o, rfl, g, c⟩
          · cases h0
          · have z : PySem.W.Looks (model prog w) h' (typeOf (.ref q)) o.cls := (PySem.W.Looks.ld g).andThen .now
            rw [c] at z
            exact z
        · have e : (Value.type "tuple" != Value.type "tuple") = false := by first | decide +kernel | rfl | decide
          rw [e]
          exact hq
    · have x1 := hp' _ hm
      have x2 := hp' _ hm'
      show wpAny (model prog w) A.in1.in1 (keyLt' (tuples' num) p.1 q.1) (fun r s' => s' = { s with heap := h' } ∧ r = lx (enc (k p.1)) (enc (k q.1))) (fun _ _ => False) { s with heap := h' }
      obtain ⟨y1, l1, e1, c1⟩ := x1.first
      obtain ⟨y2, l2, e2, c2⟩ := x2.first
      have i1 := x1.is
      have i2 := x2.is
      have g1 := x1.fit
      have g2 := x2.fit
      have d1 := x1.dep
      have d2 := x2.dep
      rw [e1] at i1 g1 d1
      rw [e2] at i2 g2 d2
      rw [e1, e2]
      rcases fits_cases g1 g2 with ⟨i, j, z, _⟩ | ⟨l', m', z1, z2, al⟩
      · cases z
      · cases z1
        cases z2
        generalize p.1 = v1 at i1 ⊢
        generalize q.1 = v2 at i2 ⊢
        cases i1 with
        | tup ga ca da na =>
          cases i2 with
          | tup gb cb db nb =>
            simp only [NestedKey.depth] at d1 d2
            refine PySem.W.kat_lt ga da gb db ?_
            have key := kat_keys (prog := prog) (w := w) (A := A.in1.in1) (s := { s with heap := h' }) (b := num) (n := 9) (Q := fun r s' => s' = { s with heap := h' } ∧ r = lx (enc (.tup (y1 :: l1))) (enc (.tup (y2 :: l2)))) (by rw [u2]; omega) (y1 :: l1) (y2 :: l2) _ _ 0 al na nb (by omega) (by omega) (fun hn _ k j l' m' ek ej => ?_) ⟨rfl, rfl⟩
            · simpa using key
            · cases ek
              cases ej
              rcases c1 with ⟨_, i, rfl⟩ | ⟨h0, _⟩
              · rcases c2 with ⟨_, j, rfl⟩ | ⟨h0, _⟩
                · exact ⟨⟨_, rfl⟩, _, rfl⟩
                · rw [hn] at h0; cases h0
              · rw [hn] at h0; cases h0
  · exact h _ _ out hs hb (fun b o e => sortedAll_old e) (Nat.le_succ _) (sortedAll_at s.heap vs out.toArray)
end
end
end Z

/-! Z: sorted(..) of ints and of pairs of ints. -/
namespace Z
open PySem PySem.Spec PyProof.Rows L2
/-- the values and their pairs -/
def PairsAt (K : PySem.W.Frag) (H : Hp) : List V → List (Int × Int) → Prop
  | [], [] => True
  | x :: xs, p :: ps => (∃ t, x = .ref t ∧ SqT K H t [.int p.1, .int p.2]) ∧ PairsAt K H xs ps
  | _, _ => False
def rSortedPF (K : PySem.W.Frag) : List V → Hp → VK → Prop := fun vs H Q => ∃ (a : Addr) (xs : List V) (ps : List (Int × Int)), vs = [V.ref a] ∧ SqL K H a xs ∧ PairsAt K H xs ps ∧
  ∀ (zs : List (V × (Int × Int))) (p : Addr), zs.Perm (xs.zip ps) → zs.Pairwise (fun y z => SrtO.lexB z.2 y.2 = false) → H p = none → Q (.ref p) (upd H p (.lst (zs.map (·.1))))
/-- the two ints of a tuple in the heap -/
def pairOf (h : Heap) (v : Value) : Int × Int := ((TS.intsOf h v).getD 0 0, (TS.intsOf h v).getD 1 0)
def fwV : V → Value
  | .ref a => .ref a
  | _ => .none
theorem pairs_zip {X : Cx} {pins : List (Addr × Obj)} {σ : L2.St} {H : Hp} {s : Shared} (I : Inv X pins σ H s) : ∀ {xs : List V} {ps : List (Int × Int)}, PairsAt X.K H xs ps → (∀ x ∈ xs, ∃ t, x = V.ref t ∧ Srt.IsPair s.heap (Value.ref t) (pairOf s.heap (Value.ref t)).1 (pairOf s.heap (Value.ref t)).2) ∧ (xs.zip ps = xs.map fun x => (x, pairOf s.heap (fwV x))) ∧ ps.length = xs.length
  | [], [], _ => ⟨fun _ h => by simp at h, rfl, rfl⟩
  | [], _ :: _, h => h.elim
  | _ :: _, [], h => h.elim
  | x :: xs, p :: ps, ⟨⟨t, e, ht⟩, hr⟩ => by
    obtain ⟨h1, h2, h3⟩ := pairs_zip I hr
    subst e
    have hi : TS.intsOf s.heap (.ref t) = [p.1, p.2] := (tupI_raw (ns := [p.1, p.2]) I ht).ints
    have hp : pairOf s.heap (.ref t) = p := by unfold pairOf; rw [hi]; rfl
    refine ⟨fun y hy => ?_, ?_, by simp [h3]⟩
    · rcases List.mem_cons.mp hy with rfl | hy
      · refine ⟨t, rfl, ?_⟩
        rw [hp]
        obtain ⟨its, rv, hT, _⟩ := I.tuple ht
        obtain ⟨u1, u2, rfl, ri, rj⟩ := vals2 rv
        obtain ⟨t1, rfl⟩ := ri
        obtain ⟨t2, rfl⟩ := rj
        obtain ⟨o, ho, hc, n, hd⟩ := hT
        exact ⟨t, o, t1, t2, n, rfl, ho, hc, hd⟩
      · exact h1 y hy
    · rw [List.zip_cons_cons, h2, List.map_cons]
      have : fwV (V.ref t) = Value.ref t := rfl
      rw [this, hp]
theorem cr_sortedPF {X : Cx} : CallR X (.builtin "sorted") (rSortedPF X.K) := by
  intro pins s σ H vs us Q I r h
  obtain ⟨a, xs, ps, rfl, hs, hx, q⟩ := h
  obtain ⟨its, rv, hl, hz⟩ := I.list hs
  obtain ⟨u, rfl, ru⟩ := vals1 r
  obtain rfl : u = Value.ref a := ru
  obtain ⟨hp, hzip, hlen⟩ := pairs_zip I hx
  obtain ⟨e1, e2⟩ := refs_back rv fun x m => by
    obtain ⟨t, e, _⟩ := hp x m
    exact ⟨t, e⟩
  have kf : ∀ u ∈ its, fwV (backV u) = u := fun u hu => by
    obtain ⟨t, rfl⟩ := e2 u hu
    rfl
  refine SrtO.sorted_pairsO (k := pairOf s.heap) hl.isList (by rw [← rv.length]; exact hz) (fun v hv => ?_) fun h' d out h1 h2 kp hd hn => ?_
  · obtain ⟨t, rfl⟩ := e2 v hv
    have hm : V.ref t ∈ xs := by rw [e1]; exact List.mem_map.mpr ⟨_, hv, rfl⟩
    obtain ⟨t', e, ht⟩ := hp _ hm
    cases e
    exact ht
  · have h3 : ∀ u ∈ out, ∃ a, u = Value.ref a := fun u hu => e2 u (h2.perm.mem_iff.mp hu)
    obtain ⟨n, hn⟩ := hn
    have hperm : (out.map backV).Perm xs := by rw [e1]; exact h2.perm.map backV
    have hq := q (out.map fun u => (backV u, pairOf s.heap u)) d (by
      rw [hzip, e1, List.map_map]
      have : its.map ((fun x => (x, pairOf s.heap (fwV x))) ∘ backV) = its.map fun u => (backV u, pairOf s.heap u) := List.map_congr_left fun u hu => by
        show (backV u, pairOf s.heap (fwV (backV u))) = _
        rw [kf u hu]
      rw [this]
      exact h2.perm.map _) (by
      rw [List.pairwise_map]
      exact List.Pairwise.imp (fun h => h) h1) (I.hok.fresh hd)
    rw [List.map_map] at hq
    refine ⟨.ref d, upd H d (.lst (out.map backV)), I.laid (t' := s.toks) kp hd ⟨?_, out, n, vals_back h3, hn⟩, rfl, hq⟩
    rw [hperm.length_eq]
    exact hz
def isort (ns : List Int) : List Int := ns.mergeSort fun a b => decide (a ≤ b)
theorem isort_perm {ns : List Int} : (isort ns).Perm ns := List.mergeSort_perm ..
theorem isort_sorted {ns : List Int} : (isort ns).Pairwise (· ≤ ·) := by
  have h := List.pairwise_mergeSort (le := fun a b : Int => decide (a ≤ b)) (fun a b c h1 h2 => by simp at *; omega) (fun a b => by simp; omega) ns
  exact h.imp fun h => by simpa using h
theorem isort_uniq {ns ms : List Int} (hp : ms.Perm ns) (hs : ms.Pairwise (· ≤ ·)) : ms = isort ns :=
  List.Perm.eq_of_pairwise (le := (· ≤ ·)) (fun a b _ _ h1 h2 => Int.le_antisymm h1 h2) hs isort_sorted (hp.trans isort_perm.symm)
def pLe (p q : Int × Int) : Bool := !SrtO.lexB q p
theorem pLe_iff {p q : Int × Int} : pLe p q = true ↔ p.1 < q.1 ∨ (p.1 = q.1 ∧ p.2 ≤ q.2) := by
  unfold pLe
  rw [Bool.not_eq_true', SrtO.lexB_no]
  omega
def psort (ps : List (Int × Int)) : List (Int × Int) := ps.mergeSort pLe
theorem psort_perm {ps : List (Int × Int)} : (psort ps).Perm ps := List.mergeSort_perm ..
theorem psort_sorted {ps : List (Int × Int)} : (psort ps).Pairwise fun p q => pLe p q = true :=
  List.pairwise_mergeSort (fun a b c h1 h2 => by rw [pLe_iff] at *; omega) (fun a b => by rw [Bool.or_eq_true, pLe_iff, pLe_iff]; omega) ps
theorem psort_uniq {ns ms : List (Int × Int)} (hp : ms.Perm ns) (hs : ms.Pairwise fun p q => pLe p q = true) : ms = psort ns :=
  List.Perm.eq_of_pairwise (le := fun p q => pLe p q = true) (fun a b _ _ h1 h2 => by
    rw [pLe_iff] at h1 h2
    exact Prod.ext (by omega) (by omega)) hs psort_sorted (hp.trans psort_perm.symm)
def pairD (p : Int × Int) : D := .tup [.int p.1, .int p.2]
def asPairs : List D → Option (List (Int × Int))
  | [] => some []
  | .tup [.int i, .int j] :: r => match asPairs r with
    | some ps => some ((i, j) :: ps)
    | none => none
  | _ :: _ => none
theorem asPairs_eq : ∀ {l : List D} {ps : List (Int × Int)}, asPairs l = some ps → l = ps.map pairD
  | [], ps, h => by cases h; rfl
  | d :: r, ps, h => by
    unfold asPairs at h
    split at h
    · rename_i heq
      exact absurd heq (by simp)
    · rename_i i j r' heq
      cases heq
      split at h
      · rename_i ps' hps
        cases h
        rw [asPairs_eq hps]
        rfl
      · cases h
    · cases h
/-! ### tuples of numbers and of such tuples -/
mutual
def dn : NestedKey → D
  | .num i => .int i
  | .tup l => .tup (dnL l)
  | _ => .non
def dnL : List NestedKey → List D
  | [] => []
  | k :: r => dn k :: dnL r
end
/-- numbers and tuples, n deep -/
def D.kn : Nat → D → Bool
  | _, .int _ => true
  | n + 1, .tup l => l.all (D.kn n)
  | _, _ => false
mutual
theorem dn_nk : ∀ {n : Nat} {d : D}, d.kn n = true → dn d.nk = d
  | _, .int i, _ => by simp [D.nk, dn]
  | n + 1, .tup l, h => by
    simp only [D.kn, List.all_eq_true] at h
    simp only [D.nk, dn]
    rw [dnL_nk h]
  | 0, .tup _, h => by simp [D.kn] at h
  | 0, .non, h => by simp [D.kn] at h
  | _ + 1, .non, h => by simp [D.kn] at h
  | 0, .bl _, h => by simp [D.kn] at h
  | _ + 1, .bl _, h => by simp [D.kn] at h
  | 0, .str _, h => by simp [D.kn] at h
  | _ + 1, .str _, h => by simp [D.kn] at h
  | 0, .lst _, h => by simp [D.kn] at h
  | _ + 1, .lst _, h => by simp [D.kn] at h
  | 0, .scr _, h => by simp [D.kn] at h
  | _ + 1, .scr _, h => by simp [D.kn] at h
  | 0, .dct _ _, h => by simp [D.kn] at h
  | _ + 1, .dct _ _, h => by simp [D.kn] at h
theorem dnL_nk : ∀ {n : Nat} {l : List D}, (∀ d ∈ l, d.kn n = true) → dnL (D.nkL l) = l
  | _, [], _ => by simp [D.nkL, dnL]
  | n, d :: r, h => by
    simp only [D.nkL, dnL]
    rw [dn_nk (h d (List.mem_cons_self ..)), dnL_nk fun x hx => h x (List.mem_cons_of_mem _ hx)]
end
theorem D.kn_depth : ∀ {n : Nat} {d : D}, d.kn n = true → d.nk.depth ≤ n := fun {n d} h => by
  refine D.nk_depth (n := n) ?_
  have key : ∀ (n : Nat) (d : D), d.kn n = true → d.kk n = true := by
    intro n
    induction n with
    | zero => intro d h; cases d <;> simp [D.kn] at h; simp [D.kk]
    | succ n ih =>
      intro d h
      cases d <;> simp [D.kn] at h
      · simp [D.kk]
      · simp only [D.kk, List.all_eq_true]
        exact fun x hx => ih x (h x hx)
  exact key n d h
/-- the value v is the key d of numbers alone -/
def NumV (X : Cx) (H : Hp) (d : D) (v : V) : Prop := ∀ (pins : List (Addr × Obj)) (σ : L2.St) (s : Shared) (u : Value), L2.Inv X pins σ H s → RelV v u → NIs s.heap d.nk u
section
variable {X : Cx} {H : Hp} {w : OM}
mutual
theorem Fz.numv : ∀ {n : Nat} {d : D} {v : V}, Fz X.K H w d v → d.kn n = true → NumV X H d v
  | _, _, _, .int i, _ => fun pins σ s u I r => by obtain ⟨t, rfl⟩ := (show ∃ t, u = Value.int i t from r); simp only [D.nk]; exact .int i t
  | n + 1, _, _, .tup h t, e => fun pins σ s u I r => by
    simp only [D.kn, List.all_eq_true] at e
    cases (show u = Value.ref _ from r)
    obtain ⟨its, r', ⟨ob, g, hc, m, hd⟩, _⟩ := I.tuple h.sq
    simp only [D.nk]
    exact .tup g hc hd (by simpa using FzL.numv t e pins σ s its I r')
  | 0, _, _, .tup h t, e => by simp [D.kn] at e
  | 0, _, _, .non, e => by simp [D.kn] at e
  | _ + 1, _, _, .non, e => by simp [D.kn] at e
  | 0, _, _, .bl _, e => by simp [D.kn] at e
  | _ + 1, _, _, .bl _, e => by simp [D.kn] at e
  | 0, _, _, .str _, e => by simp [D.kn] at e
  | _ + 1, _, _, .str _, e => by simp [D.kn] at e
  | 0, _, _, .lst .., e => by simp [D.kn] at e
  | _ + 1, _, _, .lst .., e => by simp [D.kn] at e
  | 0, _, _, .scr .., e => by simp [D.kn] at e
  | _ + 1, _, _, .scr .., e => by simp [D.kn] at e
  | 0, _, _, .dct .., e => by simp [D.kn] at e
  | _ + 1, _, _, .dct .., e => by simp [D.kn] at e
  | 0, _, _, .dcu .., e => by simp [D.kn] at e
  | _ + 1, _, _, .dcu .., e => by simp [D.kn] at e
theorem FzL.numv : ∀ {n : Nat} {ds : List D} {vs : List V}, FzL X.K H w ds vs → (∀ d ∈ ds, d.kn n = true) → ∀ (pins : List (Addr × Obj)) (σ : L2.St) (s : Shared) (us : List Value), L2.Inv X pins σ H s → Vals vs us → NAll s.heap (D.nkL ds) us
  | _, _, _, .nil, _ => fun pins σ s us I r => by cases r; simp only [D.nkL]; exact .nil
  | n, _, _, .cons h t, e => fun pins σ s us I r => by
    cases r with
    | cons r1 r2 =>
      simp only [D.nkL]
      exact .cons (Fz.numv h (e _ (List.mem_cons_self ..)) pins σ s _ I r1) (FzL.numv t (fun d hd => e d (List.mem_cons_of_mem _ hd)) pins σ s _ I r2)
end
end
mutual
def Shp.of : D → Shp
  | .tup l => if l.all (fun d => match d with | .int _ => true | _ => false) then .seq .num else .fix (Shp.ofL l)
  | _ => .num
def Shp.ofL : List D → List Shp
  | [] => []
  | d :: r => Shp.of d :: Shp.ofL r
end
/-- does it begin with a number (some true), with a tuple (some false) -/
def D.begins : D → Option Bool
  | .tup (.int _ :: _) => some true
  | .tup (.tup _ :: _) => some false
  | _ => none
def keysOk (sh : Shp) (b : Bool) (l : List D) : Bool := l.all fun d => d.kn 9 && sh.fits d.nk && decide (d.begins = some b)
def kLe (a b : D) : Bool := !lx (enc b.nk) (enc a.nk)
def ksort (l : List D) : List D := l.mergeSort kLe
open Classical in
/-- the key that a value of the heap is -/
noncomputable def keyAt (h : Heap) (v : Value) : NestedKey := if x : ∃ k, NIs h k v then x.choose else .none
theorem keyAt_eq {h : Heap} {k : NestedKey} {v : Value} (x : NIs h k v) : keyAt h v = k := by
  have hx : ∃ k, NIs h k v := ⟨k, x⟩
  unfold keyAt
  rw [dif_pos hx]
  exact NIs.inj hx.choose_spec x
def KeysAt (X : Cx) (H : Hp) : List V → List NestedKey → Prop
  | [], [] => True
  | x :: xs, k :: ks => (∃ t, x = .ref t ∧ ∀ (pins : List (Addr × Obj)) (σ : L2.St) (s : Shared), L2.Inv X pins σ H s → NIs s.heap k (.ref t)) ∧ KeysAt X H xs ks
  | _, _ => False
structure KeyOk (sh : Shp) (num : Bool) (k : NestedKey) : Prop where
  fit : sh.fits k = true
  dep : k.depth ≤ 9
  first : ∃ x l, k = .tup (x :: l) ∧ ((num = true ∧ ∃ i, x = .num i) ∨ (num = false ∧ ∃ t, x = .tup t))
def rSortedK (X : Cx) : List V → Hp → VK → Prop := fun vs H Q => ∃ (a : Addr) (xs : List V) (ks : List NestedKey) (sh : Shp) (num : Bool), vs = [V.ref a] ∧ SqL X.K H a xs ∧ KeysAt X H xs ks ∧ (∀ k ∈ ks, KeyOk sh num k) ∧
  ∀ (zs : List (V × NestedKey)) (p : Addr), zs.Perm (xs.zip ks) → zs.Pairwise (fun y z => lx (enc z.2) (enc y.2) = false) → H p = none → Q (.ref p) (upd H p (.lst (zs.map (·.1))))
theorem keys_zip {X : Cx} {pins : List (Addr × Obj)} {σ : L2.St} {H : Hp} {s : Shared} (I : L2.Inv X pins σ H s) : ∀ {xs : List V} {ks : List NestedKey}, KeysAt X H xs ks → (∀ x ∈ xs, ∃ t, x = V.ref t ∧ ∃ k ∈ ks, NIs s.heap k (.ref t)) ∧ xs.zip ks = xs.map fun x => (x, keyAt s.heap (fwV x))
  | [], [], _ => ⟨fun _ h => by simp at h, rfl⟩
  | [], _ :: _, h => h.elim
  | _ :: _, [], h => h.elim
  | x :: xs, k :: ks, ⟨⟨t, e, ht⟩, hr⟩ => by
    obtain ⟨h1, h2⟩ := keys_zip I hr
    subst e
    have hk := ht pins σ s I
    refine ⟨fun y hy => ?_, ?_⟩
    · rcases List.mem_cons.mp hy with rfl | hy
      · exact ⟨t, rfl, k, List.mem_cons_self .., hk⟩
      · obtain ⟨t', e', k', hk', h'⟩ := h1 y hy
        exact ⟨t', e', k', List.mem_cons_of_mem _ hk', h'⟩
    · rw [List.zip_cons_cons, h2, List.map_cons]
      have : fwV (V.ref t) = Value.ref t := rfl
      rw [this, keyAt_eq hk]
theorem cr_sortedK {X : Cx} (hu : X.A.units + 65 < cLine) : CallR X (.builtin "sorted") (rSortedK X) := by
  intro pins s σ H vs us Q I r h
  obtain ⟨a, xs, ks, sh, num, rfl, hs, hx, hok, q⟩ := h
  obtain ⟨its, rv, hl, hz⟩ := I.list hs
  obtain ⟨u, rfl, ru⟩ := vals1 r
  obtain rfl : u = Value.ref a := ru
  obtain ⟨hp, hzip⟩ := keys_zip I hx
  obtain ⟨e1, e2⟩ := refs_back rv fun x m => by
    obtain ⟨t, e, _⟩ := hp x m
    exact ⟨t, e⟩
  have kf : ∀ u ∈ its, fwV (backV u) = u := fun u hu => by
    obtain ⟨t, rfl⟩ := e2 u hu
    rfl
  refine sorted_keysO (k := keyAt s.heap) (sh := sh) (num := num) (by omega) hl.isList (by rw [← rv.length]; exact hz) (fun v hv => ?_) fun h' d out h1 h2 kp hd hn => ?_
  · obtain ⟨t, rfl⟩ := e2 v hv
    have hm : V.ref t ∈ xs := by rw [e1]; exact List.mem_map.mpr ⟨_, hv, rfl⟩
    obtain ⟨t', e, k, hk, ht⟩ := hp _ hm
    cases e
    rw [keyAt_eq ht]
    have o := hok k hk
    exact ⟨ht, o.fit, o.dep, o.first⟩
  · have h3 : ∀ u ∈ out, ∃ a, u = Value.ref a := fun u hu => e2 u (h2.perm.mem_iff.mp hu)
    obtain ⟨n, hn⟩ := hn
    have hperm : (out.map backV).Perm xs := by rw [e1]; exact h2.perm.map backV
    have hq := q (out.map fun u => (backV u, keyAt s.heap u)) d (by
      rw [hzip, e1, List.map_map]
      have : its.map ((fun x => (x, keyAt s.heap (fwV x))) ∘ backV) = its.map fun u => (backV u, keyAt s.heap u) := List.map_congr_left fun u hu => by
        show (backV u, keyAt s.heap (fwV (backV u))) = _
        rw [kf u hu]
      rw [this]
      exact h2.perm.map _) (by
      rw [List.pairwise_map]
      exact List.Pairwise.imp (fun h => h) h1) (I.hok.fresh hd)
    rw [List.map_map] at hq
    refine ⟨.ref d, upd H d (.lst (out.map backV)), I.laid (t' := s.toks) kp hd ⟨?_, out, n, vals_back h3, hn⟩, rfl, hq⟩
    rw [hperm.length_eq]
    exact hz
theorem keys_at {X : Cx} {H : Hp} {w : OM} {sh : Shp} {b : Bool} : ∀ {l : List D} {xs : List V}, FzL X.K H w l xs → keysOk sh b l = true → KeysAt X H xs (l.map D.nk) ∧ (∀ k ∈ l.map D.nk, KeyOk sh b k) ∧ (∀ d ∈ l, d.kn 9 = true) ∧ (∀ z ∈ xs.zip (l.map D.nk), Fz X.K H w (dn z.2) z.1)
  | [], _, .nil, _ => ⟨trivial, fun k h => by simp at h, fun d h => by simp at h, fun z h => by simp at h⟩
  | d :: l, _, .cons h t, e => by
    unfold keysOk at e
    rw [List.all_cons, Bool.and_eq_true, Bool.and_eq_true, Bool.and_eq_true] at e
    obtain ⟨⟨⟨k1, k2⟩, k3⟩, k4⟩ := e
    have k3 := of_decide_eq_true k3
    obtain ⟨i1, i2, i3, i4⟩ := keys_at t k4
    have hn := h.numv k1
    have hd := D.kn_depth k1
    have hdn := dn_nk k1
    have hfz := h
    refine ⟨⟨?_, i1⟩, fun k hk => ?_, fun x hx => ?_, fun z hz => ?_⟩
    · cases h with
      | tup h1 h2 => exact ⟨_, rfl, fun pins σ s I => hn pins σ s _ I rfl⟩
      | _ => simp [D.begins] at k3
    · rw [List.map_cons] at hk
      rcases List.mem_cons.mp hk with rfl | hk
      · refine ⟨k2, hd, ?_⟩
        unfold D.begins at k3
        split at k3
        · rename_i i r _
          injection k3 with k3
          exact ⟨.num i, D.nkL r, by simp [D.nk, D.nkL], .inl ⟨k3.symm, i, rfl⟩⟩
        · rename_i m r _
          injection k3 with k3
          exact ⟨.tup (D.nkL m), D.nkL r, by simp [D.nk, D.nkL], .inr ⟨k3.symm, _, rfl⟩⟩
        · cases k3
      · exact i2 k hk
    · rcases List.mem_cons.mp hx with rfl | hx
      · exact k1
      · exact i3 x hx
    · rw [List.map_cons, List.zip_cons_cons] at hz
      rcases List.mem_cons.mp hz with rfl | hz
      · show Fz X.K H w (dn d.nk) _
        rw [hdn]
        exact hfz
      · exact i4 z hz
mutual
theorem enc_inj : ∀ (x y : NestedKey) {s : Shp} {r t : List Int}, s.fits x = true → s.fits y = true → enc x ++ r = enc y ++ t → x = y ∧ r = t
  | .num i, y, s, r, t, h1, h2, e => by
    rcases fits_cases h1 h2 with ⟨a, b, e1, e2⟩ | ⟨l, m, e1, _⟩
    · cases e1
      subst e2
      simp only [enc, List.singleton_append, List.cons.injEq] at e
      exact ⟨by rw [e.1], e.2⟩
    · cases e1
  | .tup l, y, s, r, t, h1, h2, e => by
    rcases fits_cases h1 h2 with ⟨a, b, e1, _⟩ | ⟨l', m, e1, e2, al⟩
    · cases e1
    · cases e1
      subst e2
      simp only [enc] at e
      obtain ⟨h, h'⟩ := encL_inj l m al e
      exact ⟨by rw [h], h'⟩
  | .none, y, s, r, t, h1, h2, _ => by
    rcases fits_cases h1 h2 with ⟨a, b, e1, _⟩ | ⟨l', m, e1, _⟩ <;> cases e1
  | .text _, y, s, r, t, h1, h2, _ => by
    rcases fits_cases h1 h2 with ⟨a, b, e1, _⟩ | ⟨l', m, e1, _⟩ <;> cases e1
theorem encL_inj : ∀ (l m : List NestedKey) {r t : List Int}, Al l m → encL l ++ r = encL m ++ t → l = m ∧ r = t
  | [], [], _, _, _, e => by simp [encL] at e; exact ⟨rfl, e⟩
  | [], j :: m, r, t, _, e => by simp [encL] at e
  | k :: l, [], r, t, _, e => by simp [encL] at e
  | k :: l, j :: m, r, t, al, e => by
    cases al with
    | cons h1 h2 al =>
      simp only [encL, List.cons_append, List.append_assoc, List.cons.injEq, true_and] at e
      obtain ⟨rfl, e2⟩ := enc_inj k j h1 h2 e
      obtain ⟨rfl, e3⟩ := encL_inj l m al e2
      exact ⟨rfl, e3⟩
end
theorem kn_kk : ∀ {n : Nat} {d : D}, d.kn n = true → d.kk n = true := by
  intro n
  induction n with
  | zero => intro d h; cases d <;> simp [D.kn] at h; simp [D.kk]
  | succ n ih =>
    intro d h
    cases d <;> simp [D.kn] at h
    · simp [D.kk]
    · simp only [D.kk, List.all_eq_true]
      exact fun x hx => ih (h x hx)
theorem ksort_perm {l : List D} : (ksort l).Perm l := List.mergeSort_perm ..
theorem ksort_sorted {l : List D} : (ksort l).Pairwise fun a b => kLe a b = true :=
  List.pairwise_mergeSort (fun a b c h1 h2 => by
    unfold kLe at *
    rw [Bool.not_eq_true'] at *
    cases q : lx (enc c.nk) (enc a.nk) with
    | false => rfl
    | true =>
      rcases lex_negTrans (O := iOrd) _ (enc b.nk) _ q with r | r
      · rw [show lexLt iOrd (enc c.nk) (enc b.nk) = _ from h2] at r; cases r
      · rw [show lexLt iOrd (enc b.nk) (enc a.nk) = _ from h1] at r; cases r) (fun a b => by
    unfold kLe
    cases q : lx (enc b.nk) (enc a.nk) with
    | false => simp
    | true =>
      cases q2 : lx (enc a.nk) (enc b.nk) with
      | false => simp
      | true =>
        have := lex_trans (O := iOrd) _ _ _ q q2
        rw [lex_irrefl] at this
        cases this) l
theorem ksort_uniq {sh : Shp} {b : Bool} {l ms : List D} (hk : keysOk sh b l = true) (hp : ms.Perm l) (hs : ms.Pairwise fun a b => kLe a b = true) : ms = ksort l := by
  refine List.Perm.eq_of_pairwise (le := fun a b => kLe a b = true) (fun x y hx hy h1 h2 => ?_) hs ksort_sorted (hp.trans ksort_perm.symm)
  have hx := (List.all_eq_true.mp hk) x (hp.mem_iff.mp hx)
  have hy := (List.all_eq_true.mp hk) y (ksort_perm.mem_iff.mp hy)
  rw [Bool.and_eq_true, Bool.and_eq_true] at hx hy
  unfold kLe at h1 h2
  rw [Bool.not_eq_true'] at h1 h2
  have e := lex_total (O := iOrd) _ _ h1 h2
  have e2 := (enc_inj y.nk x.nk (r := []) (t := []) hy.1.2 hx.1.2 (by rw [e])).1
  exact D.nk_inj (kn_kk hx.1.1) (kn_kk hy.1.1) e2.symm
def fSort : List Cell → R Cell
  | [⟨.lst l, k⟩] => if k ≤ 1 then match asInts l with
      | some ns => .ok ⟨.lst ((isort ns).map D.int), 1⟩
      | none => match asPairs l with
        | some ps => .ok ⟨.lst ((psort ps).map pairD), 1⟩
        | none => match l.head?.bind D.begins with
          | some b => if keysOk (Shp.of (l.headD .non)) b l then .ok ⟨.lst (ksort l), 1⟩ else .bad
          | none => .bad
    else .bad
  | _ => .bad
theorem pairs_at {K : PySem.W.Frag} {H : Hp} {w : OM} : ∀ {ps : List (Int × Int)} {xs : List V}, FzL K H w (ps.map pairD) xs → PairsAt K H xs ps
  | [], [], _ => trivial
  | [], _ :: _, h => by cases h
  | p :: ps, [], h => by cases h
  | p :: ps, x :: xs, .cons h t => by
    refine ⟨?_, pairs_at t⟩
    cases h with
    | tup ta fa =>
      have : _ = [p.1, p.2].map V.int := FzL.ints (ns := [p.1, p.2]) fa
      subst this
      exact ⟨_, rfl, ta.sq⟩
theorem fz_zip {K : PySem.W.Frag} {H : Hp} {w : OM} : ∀ {ps : List (Int × Int)} {xs : List V}, FzL K H w (ps.map pairD) xs → ∀ z ∈ xs.zip ps, Fz K H w (pairD z.2) z.1
  | [], [], _, z, hz => by simp at hz
  | [], _ :: _, h, _, _ => by cases h
  | p :: ps, [], h, _, _ => by cases h
  | p :: ps, x :: xs, .cons h t, z, hz => by
    rw [List.zip_cons_cons, List.mem_cons] at hz
    rcases hz with rfl | hz
    · exact h
    · exact fz_zip t z hz
theorem fz_of {K : PySem.W.Frag} {H : Hp} {w : OM} : ∀ {zs : List (V × (Int × Int))}, (∀ z ∈ zs, Fz K H w (pairD z.2) z.1) → FzL K H w ((zs.map (·.2)).map pairD) (zs.map (·.1))
  | [], _ => .nil
  | z :: zs, h => .cons (h z (List.mem_cons_self ..)) (fz_of fun y hy => h y (List.mem_cons_of_mem _ hy))
theorem fzl_len {K : PySem.W.Frag} {H : Hp} {w : OM} {ps : List (Int × Int)} {xs : List V} (h : FzL K H w (ps.map pairD) xs) : ps.length = xs.length := by
  have := h.length
  simpa using this
section
variable {X : Cx}
theorem call_sortAll (hu : X.A.units + 65 < cLine) : CallR X (.builtin "sorted") (fun xs H Q => rSortedI X.K xs H Q ∨ rSortedPF X.K xs H Q ∨ rSortedK X xs H Q) := cr_sortedI.or (cr_sortedPF.or (cr_sortedK hu))
theorem s_sort : CallS X (fun xs H Q => rSortedI X.K xs H Q ∨ rSortedPF X.K xs H Q ∨ rSortedK X xs H Q) fSort := by
  intro n H w σ ρ cs vs c Q ok ow e k
  unfold fSort at e
  split at e
  · rename_i l kk
    split at e
    · rename_i hk
      split at e
      · rename_i ns hn
        cases e
        obtain ⟨v, o, rfl, h1⟩ := ow.one
        obtain ⟨a, xs, rfl, ta, la, fa⟩ := ow_lst h1
        have hl := asInts_eq hn
        subst hl
        have := (fa hk).ints
        subst this
        refine .inl ⟨a, ns, rfl, .inl (.inl ta), fun ns' p hp hs hq => ?_⟩
        have := isort_uniq hp hs
        subst this
        exact k _ _ (w.put p (.tm n)) (ok.new hq _) (Step.new hq) (.lst upd_same OM.put_same ((fz_ints _).step (Kp.new hq .no)))
      · split at e
        · rename_i ps hn
          cases e
          obtain ⟨v, o, rfl, h1⟩ := ow.one
          obtain ⟨a, xs, rfl, ta, la, fa⟩ := ow_lst h1
          have hl := asPairs_eq hn
          subst hl
          have ff := fa hk
          refine .inr (.inl ⟨a, xs, ps, rfl, .inl (.inl ta), pairs_at ff, fun zs p hp hs hq => ?_⟩)
          have e2 : zs.map (·.2) = psort ps := by
            refine psort_uniq ?_ ?_
            · have := hp.map (·.2)
              rw [List.map_snd_zip (by rw [fzl_len ff]; exact Nat.le_refl _)] at this
              exact this
            · rw [List.pairwise_map]
              exact hs.imp fun h => by unfold pLe; rw [h]; rfl
          have f2 := fz_of (K := X.K) (H := H) (w := w) (zs := zs) fun z hz => fz_zip ff z (hp.mem_iff.mp hz)
          rw [e2] at f2
          exact k _ _ (w.put p (.tm n)) (ok.new hq _) (Step.new hq) (.lst upd_same OM.put_same (f2.step (Kp.new hq .no)))
        · split at e
          · rename_i b hb
            split at e
            · rename_i hko
              cases e
              obtain ⟨v, o, rfl, h1⟩ := ow.one
              obtain ⟨a, xs, rfl, ta, la, fa⟩ := ow_lst h1
              have ff := fa hk
              generalize hsh : Shp.of (l.headD .non) = sh at hko
              obtain ⟨i1, i2, i3, i4⟩ := keys_at ff hko
              refine .inr (.inr ⟨a, xs, l.map D.nk, sh, b, rfl, .inl (.inl ta), i1, i2, fun zs p hp hs hq => ?_⟩)
              have hlen : (l.map D.nk).length = xs.length := by rw [List.length_map]; exact ff.length
              have e1 : (zs.map (·.2)).Perm (l.map D.nk) := by
                have := hp.map (·.2)
                rw [List.map_snd_zip (by rw [hlen]; exact Nat.le_refl _)] at this
                exact this
              have back : ∀ k ∈ l.map D.nk, (dn k).nk = k := fun k hk => by
                obtain ⟨d, hd, rfl⟩ := List.mem_map.mp hk
                rw [dn_nk (i3 d hd)]
              have e2 : (zs.map fun z => dn z.2) = ksort l := by
                refine ksort_uniq hko ?_ ?_
                · have h3 := e1.map dn
                  rw [List.map_map, List.map_map] at h3
                  have h4 : l.map (dn ∘ D.nk) = l := (List.map_congr_left fun d hd => dn_nk (i3 d hd)).trans (List.map_id _)
                  rw [h4] at h3
                  exact h3
                · rw [List.pairwise_map]
                  refine List.Pairwise.imp_of_mem (fun {y z} hy hz h => ?_) hs
                  have by_ := back y.2 (e1.mem_iff.mp (List.mem_map.mpr ⟨y, hy, rfl⟩))
                  have bz := back z.2 (e1.mem_iff.mp (List.mem_map.mpr ⟨z, hz, rfl⟩))
                  unfold kLe
                  rw [by_, bz, h]
                  rfl
              have fz : ∀ {zs : List (V × NestedKey)}, (∀ z ∈ zs, Fz X.K H w (dn z.2) z.1) → FzL X.K H w (zs.map fun z => dn z.2) (zs.map (·.1)) := by
                intro zs
                induction zs with
                | nil => intro _; exact .nil
                | cons z zs ih => intro h; exact .cons (h z (List.mem_cons_self ..)) (ih fun y hy => h y (List.mem_cons_of_mem _ hy))
              have f2 := fz (zs := zs) fun z hz => i4 z (hp.mem_iff.mp hz)
              rw [e2] at f2
              exact k _ _ (w.put p (.tm n)) (ok.new hq _) (Step.new hq) (.lst upd_same OM.put_same (f2.step (Kp.new hq .no)))
            · cases e
          · cases e
    · cases e
  · cases e
end
end Z

/-! Z: loops and comprehensions by a state, drawing by functions. -/
namespace Z
open PySem PySem.Spec PyProof.Rows L2
@[simp] theorem aVar_s {i : Nat} {ρ : Env} : aVar i ρ = (match ρ.get i with | some _ => .ok (.s i, ρ) | none => .bad) := rfl
@[simp] theorem runDef_s {size : Nat} {m : MS} {as : List Cell} : runDef size m as = (do
  let (fl, ρ) ← m (locks 0 as) (as.map some ++ List.replicate (size - as.length) none)
  let fs ← fins ρ 0 as
  match fl with
  | .ret c => R.ok (c, fs)
  | .next => R.ok (Cell.fz .non, fs)
  | _ => R.bad) := rfl
@[simp] theorem chk_none {l : List D} {ρ : Env} : chkOk ⟨l, none⟩ ρ = true := rfl
@[simp] theorem chk_some {l : List D} {i : Nat} {ρ : Env} : chkOk ⟨l, some i⟩ ρ = (match ρ.get i with | some c => decide (c.k ≤ 1) && decide (c.d = .lst l) | none => false) := rfl
@[simp] theorem wipe_nil {ρ : Env} : wipeE ρ [] = ρ := rfl
@[simp] theorem wipe_cons {ρ : Env} {i : Nat} {r : List Nat} : wipeE ρ (i :: r) = (wipeE ρ r).set i none := rfl
@[simp] theorem rest_nil {ρ ρ0 : Env} : restore ρ ρ0 [] = ρ := rfl
@[simp] theorem rest_cons {ρ ρ0 : Env} {i : Nat} {r : List Nat} : restore ρ ρ0 (i :: r) = (restore ρ ρ0 r).set i (ρ0.get i) := rfl
@[simp] theorem own_nil {ρ : Env} : ownOk ρ [] = true := rfl
@[simp] theorem own_cons {ρ : Env} {i : Nat} {r : List Nat} : ownOk ρ (i :: r) = ((match ρ.get i with | some c => decide (c.k = 0) | none => true) && ownOk ρ r) := rfl
@[simp] theorem items_tup {l : List D} : itemsOf (.tup l) = some l := rfl
@[simp] theorem items_lst {l : List D} : itemsOf (.lst l) = some l := rfl
@[simp] theorem items_scr {l : List D} : itemsOf (.scr l) = some l := rfl

/-! ### one turn of a loop -/
def fin1 (it : ItD) (x : Fl × Env) : R (Fl × Env) := match x.1 with
  | .ret c => .ok (.ret c, x.2)
  | .brk => .ok (.brk, x.2)
  | _ => if chkOk it x.2 then .ok (.next, x.2) else .bad
@[simp] theorem fin1_ret {it : ItD} {c : Cell} {ρ : Env} : fin1 it (.ret c, ρ) = .ok (.ret c, ρ) := rfl
@[simp] theorem fin1_brk {it : ItD} {ρ : Env} : fin1 it (.brk, ρ) = .ok (.brk, ρ) := rfl
@[simp] theorem fin1_next {it : ItD} {ρ : Env} : fin1 it (.next, ρ) = if chkOk it ρ then .ok (.next, ρ) else .bad := rfl
@[simp] theorem fin1_cont {it : ItD} {ρ : Env} : fin1 it (.cont, ρ) = if chkOk it ρ then .ok (.next, ρ) else .bad := rfl
def step1 (it : ItD) (g : MG) (body : MS) (L : List Nat) (d : D) (ρ : Env) : R (Fl × Env) := do
  let ρ1 ← g d L ρ
  let x ← body L ρ1
  fin1 it x
section
variable {it : ItD} {g : MG} {body : MS} {L : List Nat} {d : D} {r : List D} {ρ ρ' : Env} {α σ : Type} {toD : α → D} {enc : σ → Env}
theorem loopF_cons : loopF it g body L (d :: r) ρ = (do
    let ρ1 ← g d L ρ
    let (fl, ρ2) ← body L ρ1
    match fl with
    | .ret c => R.ok (.ret c, ρ2)
    | .brk => R.ok (.next, ρ2)
    | _ => if chkOk it ρ2 then loopF it g body L r ρ2 else R.bad) := rfl
theorem loop_next (h : step1 it g body L d ρ = .ok (.next, ρ')) : loopF it g body L (d :: r) ρ = loopF it g body L r ρ' := by
  rw [loopF_cons]
  unfold step1 at h
  obtain ⟨ρ1, e1, h⟩ := R.of_bind h
  obtain ⟨⟨fl, ρ2⟩, e2, h⟩ := R.of_bind h
  rw [e1]
  simp only [R.ok_bind]
  rw [e2]
  simp only [R.ok_bind]
  cases fl with
  | ret c => simp at h
  | brk => simp at h
  | next =>
    dsimp only
    by_cases hc : chkOk it ρ2 = true
    · simp [hc] at h; subst h; rw [if_pos hc]
    · simp [hc] at h
  | cont =>
    dsimp only
    by_cases hc : chkOk it ρ2 = true
    · simp [hc] at h; subst h; rw [if_pos hc]
    · simp [hc] at h
theorem loop_ret {c : Cell} (h : step1 it g body L d ρ = .ok (.ret c, ρ')) : loopF it g body L (d :: r) ρ = .ok (.ret c, ρ') := by
  rw [loopF_cons]
  unfold step1 at h
  obtain ⟨ρ1, e1, h⟩ := R.of_bind h
  obtain ⟨⟨fl, ρ2⟩, e2, h⟩ := R.of_bind h
  rw [e1]
  simp only [R.ok_bind]
  rw [e2]
  simp only [R.ok_bind]
  cases fl with
  | ret c' => simp at h; obtain ⟨rfl, rfl⟩ := h; rfl
  | brk => simp at h
  | next => by_cases hc : chkOk it ρ2 = true <;> simp [hc] at h
  | cont => by_cases hc : chkOk it ρ2 = true <;> simp [hc] at h
theorem loop_brk (h : step1 it g body L d ρ = .ok (.brk, ρ')) : loopF it g body L (d :: r) ρ = .ok (.next, ρ') := by
  rw [loopF_cons]
  unfold step1 at h
  obtain ⟨ρ1, e1, h⟩ := R.of_bind h
  obtain ⟨⟨fl, ρ2⟩, e2, h⟩ := R.of_bind h
  rw [e1]
  simp only [R.ok_bind]
  rw [e2]
  simp only [R.ok_bind]
  cases fl with
  | ret c' => simp at h
  | brk => simp at h; subst h; rfl
  | next => by_cases hc : chkOk it ρ2 = true <;> simp [hc] at h
  | cont => by_cases hc : chkOk it ρ2 = true <;> simp [hc] at h
/-- the state that a loop leaves, by what each turn does -/
theorem for_fold (toD : α → D) (enc : σ → Env) (step : σ → α → σ) (I : List α → σ → Prop) {ds : List α} {s : σ} (hI : I ds s)
    (h : ∀ a rest s, I (a :: rest) s → step1 it g body L (toD a) (enc s) = .ok (.next, enc (step s a)) ∧ I rest (step s a)) :
    loopF it g body L (ds.map toD) (enc s) = .ok (.next, enc (ds.foldl step s)) ∧ I [] (ds.foldl step s) := by
  induction ds generalizing s with
  | nil => exact ⟨rfl, hI⟩
  | cons a r ih =>
    obtain ⟨e, h2⟩ := h a r s hI
    obtain ⟨e2, h3⟩ := ih h2
    rw [List.map_cons, loop_next e, e2, List.foldl_cons]
    exact ⟨rfl, h3⟩
/-- the same by a relation -/
theorem for_rel (toD : α → D) (enc : σ → Env) (I : List α → σ → Prop) {ds : List α} {s : σ} (hI : I ds s)
    (h : ∀ a rest s, I (a :: rest) s → ∃ s', step1 it g body L (toD a) (enc s) = .ok (.next, enc s') ∧ I rest s') :
    ∃ s', loopF it g body L (ds.map toD) (enc s) = .ok (.next, enc s') ∧ I [] s' := by
  induction ds generalizing s with
  | nil => exact ⟨s, rfl, hI⟩
  | cons a r ih =>
    obtain ⟨s2, e, h2⟩ := h a r s hI
    obtain ⟨s3, e2, h3⟩ := ih h2
    exact ⟨s3, by rw [List.map_cons, loop_next e, e2], h3⟩
end

/-! ### one turn of a comprehension -/
def comp1 (it : ItD) (g : MG) (tt : MT) (me : AE) (vs : List Nat) (d : D) (ρ : Env) : R (Option D × Env) := do
  let ρa ← g d [] ρ
  let (b, ρb) ← tt ρa
  if b then do
    let (s, ρc) ← me ρb
    let (c, ρd) ← esc s ρc
    if chkOk it (wipeE ρd vs) then R.ok (some c.d, wipeE ρd vs) else R.bad
  else if chkOk it (wipeE ρb vs) then R.ok (none, wipeE ρb vs) else R.bad
section
variable {it : ItD} {g : MG} {tt : MT} {me : AE} {vs : List Nat} {d : D} {r : List D} {ρ ρ' : Env} {α σ : Type} {toD : α → D} {enc : σ → Env}
theorem loopC_cons : loopC it g tt me vs (d :: r) ρ = (do
    let ρa ← g d [] ρ
    let (b, ρb) ← tt ρa
    if b then do
      let (s, ρc) ← me ρb
      let (c, ρd) ← esc s ρc
      if chkOk it (wipeE ρd vs) then do
        let (acc, ρe) ← loopC it g tt me vs r (wipeE ρd vs)
        R.ok (c.d :: acc, ρe)
      else R.bad
    else if chkOk it (wipeE ρb vs) then loopC it g tt me vs r (wipeE ρb vs) else R.bad) := rfl
theorem comp_next {o : Option D} (h : comp1 it g tt me vs d ρ = .ok (o, ρ')) : loopC it g tt me vs (d :: r) ρ = (do let (acc, ρe) ← loopC it g tt me vs r ρ'; R.ok (o.toList ++ acc, ρe)) := by
  rw [loopC_cons]
  unfold comp1 at h
  obtain ⟨ρa, e1, h⟩ := R.of_bind h
  obtain ⟨⟨b, ρb⟩, e2, h⟩ := R.of_bind h
  rw [e1]
  simp only [R.ok_bind]
  rw [e2]
  simp only [R.ok_bind]
  cases b with
  | true =>
    simp only [if_true] at h ⊢
    obtain ⟨⟨s, ρc⟩, e3, h⟩ := R.of_bind h
    obtain ⟨⟨c, ρd⟩, e4, h⟩ := R.of_bind h
    rw [e3]
    simp only [R.ok_bind]
    rw [e4]
    simp only [R.ok_bind]
    by_cases hc : chkOk it (wipeE ρd vs) = true
    · simp only [hc, if_true] at h ⊢
      cases h
      rfl
    · simp [hc] at h
  | false =>
    simp only [Bool.false_eq_true, if_false] at h ⊢
    by_cases hc : chkOk it (wipeE ρb vs) = true
    · simp only [hc, if_true] at h ⊢
      cases h
      cases loopC it g tt me vs r (wipeE ρb vs) <;> rfl
    · simp [hc] at h
theorem comp_fm (toD : α → D) (f : α → Option D) {ds : List α} (h : ∀ a ∈ ds, comp1 it g tt me vs (toD a) ρ = .ok (f a, ρ)) : loopC it g tt me vs (ds.map toD) ρ = .ok (ds.filterMap f, ρ) := by
  induction ds with
  | nil => rfl
  | cons a r ih =>
    rw [List.map_cons, comp_next (h a (List.mem_cons_self ..)), ih fun x hx => h x (List.mem_cons_of_mem _ hx)]
    cases e : f a with
    | none => rw [List.filterMap_cons_none e]; rfl
    | some y => rw [List.filterMap_cons_some e]; rfl
theorem comp_m (toD : α → D) (f : α → D) {ds : List α} (h : ∀ a ∈ ds, comp1 it g tt me vs (toD a) ρ = .ok (some (f a), ρ)) : loopC it g tt me vs (ds.map toD) ρ = .ok (ds.map f, ρ) := by
  rw [comp_fm toD (fun a => some (f a)) h]
  congr 2
  clear h
  induction ds with
  | nil => rfl
  | cons a r ih => simp
theorem comp_f (toD : α → D) (p : α → Bool) (f : α → D) {ds : List α} (h : ∀ a ∈ ds, comp1 it g tt me vs (toD a) ρ = .ok (if p a then some (f a) else none, ρ)) : loopC it g tt me vs (ds.map toD) ρ = .ok ((ds.filter p).map f, ρ) := by
  rw [comp_fm toD _ h]
  congr 2
  clear h
  induction ds with
  | nil => rfl
  | cons a r ih =>
    cases e : p a with
    | true => rw [List.filterMap_cons_some (by rw [e]; rfl), List.filter_cons_of_pos e, List.map_cons, ih]
    | false => rw [List.filterMap_cons_none (by rw [e]; rfl), List.filter_cons_of_neg (by rw [e]; simp), ih]
/-- a comprehension that changes a state -/
theorem comp_rel (toD : α → D) (enc : σ → Env) (I : List α → σ → List D → Prop) {ds : List α} {s : σ} {acc : List D} (hI : I ds s acc)
    (h : ∀ a rest s acc, I (a :: rest) s acc → ∃ s' o, comp1 it g tt me vs (toD a) (enc s) = .ok (o, enc s') ∧ I rest s' (acc ++ o.toList)) :
    ∃ s' out, loopC it g tt me vs (ds.map toD) (enc s) = .ok (out, enc s') ∧ I [] s' (acc ++ out) := by
  induction ds generalizing s acc with
  | nil => exact ⟨s, [], rfl, by simpa using hI⟩
  | cons a r ih =>
    obtain ⟨s2, o, e, h2⟩ := h a r s acc hI
    obtain ⟨s3, out, e2, h3⟩ := ih h2
    refine ⟨s3, o.toList ++ out, by rw [List.map_cons, comp_next e, e2]; rfl, by rw [← List.append_assoc]; exact h3⟩
end

/-! ### draws as functions -/
def DSl (l : List D) : Prop := DSt ⟨.lst l, 1⟩
def dN (l : List D) (m : Int) : Nat := match c_draw [⟨.lst l, 1⟩, ⟨.int m, 0⟩] with
  | .ok (⟨.int n, _⟩, _) => n.toNat
  | _ => 0
def dL (l : List D) (m : Int) : List D := if 0 < m ∧ m < 4611686018427387904 then match c_draw [⟨.lst l, 1⟩, ⟨.int m, 0⟩] with
  | .ok (_, ⟨.lst l', _⟩ :: _) => l'
  | _ => l
  else l
theorem draw_all {l : List D} {m : Int} (h : DSl l) (h0 : 0 < m) (h1 : m < 4611686018427387904) : c_draw [⟨.lst l, 1⟩, ⟨.int m, 0⟩] = .ok (⟨.int (dN l m : Nat), 0⟩, [⟨.lst (dL l m), 1⟩, ⟨.int m, 0⟩]) ∧ DSl (dL l m) ∧ (dN l m : Int) < m := by
  obtain ⟨n, c', e, hc, hn0, hn1⟩ := draw_ok h h0 h1
  obtain ⟨l', rfl⟩ := hc.k
  have e1 : dN l m = n.toNat := by unfold dN; rw [e]
  have e2 : dL l m = l' := by unfold dL; rw [if_pos ⟨h0, h1⟩, e]
  rw [e1, e2, e]
  refine ⟨?_, hc, by omega⟩
  rw [Int.toNat_of_nonneg hn0]
theorem draw_s {l : List D} {m : Int} (h : DSl l) (h0 : 0 < m) (h1 : m < 4611686018427387904) : c_draw [⟨.lst l, 1⟩, ⟨.int m, 0⟩] = .ok (⟨.int (dN l m : Nat), 0⟩, [⟨.lst (dL l m), 1⟩, ⟨.int m, 0⟩]) := (draw_all h h0 h1).1
theorem DSl.d {l : List D} {m : Int} (h : DSl l) : DSl (dL l m) := by
  by_cases h2 : 0 < m ∧ m < 4611686018427387904
  · exact (draw_all h h2.1 h2.2).2.1
  · unfold dL; rw [if_neg h2]; exact h
theorem dN_lt {l : List D} {m : Int} (h : DSl l) (h0 : 0 < m) (h1 : m < 4611686018427387904) : (dN l m : Int) < m := (draw_all h h0 h1).2.2
theorem dN_ltN {l : List D} {m : Nat} (h : DSl l) (h0 : 0 < m) (h1 : m < 4611686018427387904) : dN l (m : Int) < m := Int.ofNat_lt.mp (dN_lt h (by omega) (by omega))
theorem pick_s {l : List D} {c : D} {row : List D} {k : Nat} (hc : (c = .lst row ∧ k ≤ 1) ∨ (c = .tup row ∧ k = 0)) (h : DSl l) (h0 : 0 < row.length) (h1 : row.length < 4611686018427387904) : c_pick [⟨.lst l, 1⟩, ⟨c, k⟩] = .ok (⟨row.getD (dN l row.length) .non, 0⟩, [⟨.lst (dL l row.length), 1⟩, ⟨c, k⟩]) := by
  have hd := draw_s (m := (row.length : Int)) h (by omega) (by omega)
  have hl := dN_ltN (m := row.length) h h0 h1
  have hx := atI_nat hl
  have hg : row.getD (dN l row.length) .non = row[dN l row.length] := by simp [List.getElem?_eq_getElem hl]
  rw [hg]
  rcases hc with ⟨rfl, hk⟩ | ⟨rfl, rfl⟩
  · obtain rfl | rfl : k = 0 ∨ k = 1 := by omega
    all_goals simp -implicitDefEqProofs [c_pick, m_pick, hd, p_ixL, hx]
  · simp -implicitDefEqProofs [c_pick, m_pick, hd, p_ixT, hx]
theorem pickL_s {l : List D} {row : List D} {k : Nat} (hk : k ≤ 1) (h : DSl l) (h0 : 0 < row.length) (h1 : row.length < 4611686018427387904) : c_pick [⟨.lst l, 1⟩, ⟨.lst row, k⟩] = .ok (⟨row.getD (dN l row.length) .non, 0⟩, [⟨.lst (dL l row.length), 1⟩, ⟨.lst row, k⟩]) := pick_s (.inl ⟨rfl, hk⟩) h h0 h1
theorem pickT_s {l : List D} {row : List D} (h : DSl l) (h0 : 0 < row.length) (h1 : row.length < 4611686018427387904) : c_pick [⟨.lst l, 1⟩, ⟨.tup row, 0⟩] = .ok (⟨row.getD (dN l row.length) .non, 0⟩, [⟨.lst (dL l row.length), 1⟩, ⟨.tup row, 0⟩]) := pick_s (.inr ⟨rfl, rfl⟩) h h0 h1
theorem begin_s {ns : List Int} (hl : ns.length ≤ 63) : ∃ l, c_begin [⟨.scr (ns.map D.int), 0⟩] = .ok (⟨.lst l, 1⟩, [⟨.scr (ns.map D.int), 0⟩]) ∧ DSl l :=
  ⟨_, begin_ok hl, ns, 0, 0, 7, rfl, by decide, by decide, by decide⟩
/-! ### small ones that each law wants -/
@[simp] theorem f_max2 {i j : Int} {k k' : Nat} : fMax [⟨.int i, k⟩, ⟨.int j, k'⟩] = .ok ⟨.int (if j > i then j else i), 0⟩ := rfl
@[simp] theorem f_min2 {i j : Int} {k k' : Nat} : fMin [⟨.int i, k⟩, ⟨.int j, k'⟩] = .ok ⟨.int (if j < i then j else i), 0⟩ := rfl
@[simp] theorem f_neI {i j : Int} {k k' : Nat} : fNe [⟨.int i, k⟩, ⟨.int j, k'⟩] = .ok ⟨.bl (!decide (i = j)), 0⟩ := by
  unfold fNe
  have e : D.eqv (.int i) (.int j) = decide (i = j) := by
    show (i == j) = _
    by_cases q : i = j <;> simp [q]
  simp only [D.okd, Bool.and_true, if_true, e]
  rfl
@[simp] theorem nL_len {ps : List Nat} : (nL ps).length = ps.length := by unfold nL; simp
@[simp] theorem iL_len {ps : List Int} : (iL ps).length = ps.length := by unfold iL; simp
@[simp] theorem len_nD {ps : List Nat} {k : Nat} : fLen [⟨nD ps, k⟩] = .ok ⟨.int ps.length, 0⟩ := by show R.ok (Cell.fz (.int (nL ps).length)) = _; rw [nL_len]; rfl
@[simp] theorem len_iD {ps : List Int} {k : Nat} : fLen [⟨iD ps, k⟩] = .ok ⟨.int ps.length, 0⟩ := by show R.ok (Cell.fz (.int (iL ps).length)) = _; rw [iL_len]; rfl
@[simp] theorem items_iD {l : List Int} : itemsOf (iD l) = some (iL l) := rfl
@[simp] theorem items_nD {l : List Nat} : itemsOf (nD l) = some (nL l) := rfl
theorem f_addT {l m : List D} {k k' : Nat} (h : l.length ≤ 10000) (h' : m.length ≤ 10000) : fAdd [⟨.tup l, k⟩, ⟨.tup m, k'⟩] = .ok ⟨.tup (l ++ m), 0⟩ := by
  unfold fAdd
  simp only
  rw [if_pos (by omega)]
  rfl
theorem cutD_to {l : List D} {k : Nat} (h : k ≤ l.length) : cutD l none (some (k : Int)) = l.take k := by
  unfold cutD
  rw [HT.sIx_none, HT.sIx_nat, Nat.min_eq_left h]
  simp
theorem cutD_from {l : List D} {k : Nat} (h : k ≤ l.length) : cutD l (some (k : Int)) none = l.drop k := by
  unfold cutD
  rw [HT.sIx_none, HT.sIx_nat, Nat.min_eq_left h, ← List.length_drop, List.take_length]
theorem rgD_nat' {n : Nat} : rgD 0 (n : Int) = (List.range n).map fun (i : Nat) => D.int (i : Int) := rgD_nat
end Z

/-! Z: range with a step, calls without arguments, two clauses of a comprehension. -/
namespace Z
open PySem PySem.Spec PyProof.Rows L2
section
variable {X : Cx} {tg : Expr}
/-! ### range(a, b, c) -/
def rg3B (i j c : Int) : Bool := decide (c ≠ 0) && decide (c.natAbs < 1073741824) && Builtin.Range.small i j c && decide (0 ≤ Builtin.Range.rangeSize i j c)
def rg3D (i j c : Int) : List D := (List.range (Builtin.Range.rangeSize i j c).toNat).map fun (k : Nat) => D.int (i + (k : Nat) * c)
def mRange3 (ms : List AE) : MI := fun ρ => do
  let (ss, ρ1) ← evs ms ρ
  match cells ρ1 ss with
  | some [⟨.int i, _⟩, ⟨.int j, _⟩, ⟨.int c, _⟩] => if rg3B i j c then R.ok (⟨rg3D i j c, none⟩, ρ1) else R.bad
  | _ => R.bad
theorem it_range3 {K : PySem.W.Frag} {n m : Nat} {σ : L2.St} {H : Hp} {w : OM} (i c : Int) : ItOk K (Itc i c m) n ⟨(List.range m).map fun (k : Nat) => D.int (i + (k : Nat) * c), none⟩ σ H w := fun H2 w2 σ2 ρ2 j ok2 st2 _ _ => by
  refine ⟨fun d hd => ?_, fun hle => (by simpa using hle : m ≤ j)⟩
  simp only [List.getElem?_map, Option.map_eq_some_iff] at hd
  obtain ⟨k, hk, rfl⟩ := hd
  obtain ⟨hj, hk⟩ := List.getElem?_eq_some_iff.mp hk
  rw [List.getElem_range] at hk
  subst hk
  refine ⟨(by simpa using hj : j < m), fun x H3 y => ?_⟩
  obtain ⟨rfl, rfl⟩ := y
  exact ⟨w2, fun _ _ o => o, fun _ => Step.refl, .int _⟩
theorem OwA.ints3 {K : PySem.W.Frag} {H : Hp} {w : OM} {i j c : Int} {k1 k2 k3 : Nat} {vs : List V} (h : OwA K H w [⟨.int i, k1⟩, ⟨.int j, k2⟩, ⟨.int c, k3⟩] vs) : vs = [.int i, .int j, .int c] := by
  cases h with
  | cons _ h1 t =>
    cases t with
    | cons _ h2 t =>
      cases t with
      | cons _ h3 t =>
        cases t
        cases ow_int h1
        cases ow_int h2
        cases ow_int h3
        rfl
theorem si_range3 {a b c : Expr} {ms : List AE} {p pos : Pos} (hm : X.mg "range" = none) (ha : SAs X [a, b, c] ms) (hg : Gl X "range" := by rfl)
    (hs : starEach [a, b, c] X.env = (false, eval a X.env) :: starEach [b, c] X.env := by rfl) (hpl : (backTo pos (starEach [b, c] X.env)).any (·.1) = false := by rfl) :
    SI X tg (.Call (.Name "range" p) [a, b, c] [] pos) (mRange3 ms) := by
  obtain ⟨t, q, g⟩ := ha.ex
  refine ⟨_, pi_range3 hg hm q hs hpl, fun n σ H w ρ it ρ' Q ok hm k => ?_⟩
  obtain ⟨⟨ss, ρ1⟩, e1, hm⟩ := R.of_bind hm
  dsimp only at hm
  split at hm
  · rename_i i _ j _ c _ hc
    split at hm
    · rename_i hb
      cases hm
      refine g n σ H w ρ ss _ _ ok e1 fun vs H1 w1 ok1 st1 sa => ?_
      cases (sa.cells ok1 hc).ints3
      unfold rg3B at hb
      simp only [Bool.and_eq_true, decide_eq_true_eq] at hb
      exact ⟨i, j, c, (Builtin.Range.rangeSize i j c).toNat, rfl, ⟨hb.1.1.1, hb.1.1.2, hb.1.2, (Int.toNat_of_nonneg hb.2).symm⟩, k _ H1 w1 ok1 st1 rfl (it_range3 i c)⟩
    · cases hm
  · cases hm
/-! ### [e for a in A if s for b in B if t] -/
def loopC2 (it : ItD) (g : MG) (tt : MT) (mi1 : MI) (g1 : MG) (tt1 : MT) (me : AE) (vs vs1 : List Nat) : List D → Env → R (List D × Env)
  | [], ρ => .ok ([], ρ)
  | d :: r, ρ => do
    let ρa ← g d [] ρ
    let (b, ρb) ← tt ρa
    if b then do
      let (it1, ρc) ← mi1 ρb
      if chkOk it1 (wipeE ρc vs1) then do
        let (acc1, ρd) ← loopC it1 g1 tt1 me vs1 it1.items (wipeE ρc vs1)
        if chkOk it (wipeE ρd vs) then do
          let (acc, ρe) ← loopC2 it g tt mi1 g1 tt1 me vs vs1 r (wipeE ρd vs)
          R.ok (acc1 ++ acc, ρe)
        else R.bad
      else R.bad
    else if chkOk it (wipeE ρb vs) then loopC2 it g tt mi1 g1 tt1 me vs vs1 r (wipeE ρb vs) else R.bad
def mComp2 (mi : MI) (g : MG) (tt : MT) (mi1 : MI) (g1 : MG) (tt1 : MT) (me : AE) (vs vs1 : List Nat) : AE := fun ρ => do
  let (it, ρ1) ← mi ρ
  if ownOk ρ1 vs && chkOk it (wipeE ρ1 vs) then do
    let (acc, ρ2) ← loopC2 it g tt mi1 g1 tt1 me vs vs1 it.items (wipeE ρ1 vs)
    if acc.length ≤ 16777216 then R.ok (.v ⟨.lst acc, 1⟩, restore ρ2 ρ1 vs) else R.bad
  else R.bad
def rdI (K : PySem.W.Frag) (m : MI) : TI := fun σ H R => ∃ (n : Nat) (w : OM) (ρ : Env) (it : ItD) (ρ' : Env), Ok K H w σ ρ ∧ m ρ = .ok (it, ρ') ∧ ∀ J H' w', Ok K H' w' σ ρ' → Step n H w H' w' → chkOk it ρ' = true → ItOk K J 0 it σ H' w' → R J H'
theorem SI.rd {iter : Expr} {m : MI} (h : SI X tg iter m) : PI X tg iter (rdI X.K m) := by
  obtain ⟨t, p, g⟩ := h.ex
  exact ⟨fun pins s σ H Q I ⟨n, w, ρ, it, ρ', ok, hm, k⟩ => p.run pins s σ H Q I (g n σ H w ρ it ρ' Q ok hm k)⟩
end
end Z

/-! Z: repr. -/
namespace Z
open PySem PySem.Spec PyProof.Rows L2
section
variable {X : Cx}
end
/-! ### how long it may be -/
mutual
def D.wt : D → Nat
  | .non => 6
  | .bl _ => 7
  | .int _ => 66
  | .str x => 10 * x.length + 4
  | .tup l => D.wtL l + 4
  | .lst l => D.wtL l + 4
  | .scr l => D.wtL l + 4
  | .dct _ _ => 4
def D.wtL : List D → Nat
  | [] => 0
  | d :: r => d.wt + 2 + D.wtL r
end
mutual
def D.small : D → Bool
  | .non => true
  | .bl _ => true
  | .int i => decide (i.natAbs < 2 ^ 60)
  | .str x => x.cps.all (· < 0x110000) && (reprText x).cps.all (· < 0x110000)
  | .tup l => D.smallL l
  | .lst l => D.smallL l
  | .scr l => D.smallL l
  | .dct _ _ => false
def D.smallL : List D → Bool
  | [] => true
  | d :: r => d.small && D.smallL r
end
theorem textFrom_le : ∀ (ts : List Str) (k : Nat) (acc : Str), (textFrom k acc ts).length ≤ acc.length + piled ts
  | [], k, acc => by show acc.length ≤ _; omega
  | t :: r, k, acc => by
    have ih := textFrom_le r (k + 1) (acc ++ (if k > 0 then ", " else "" : String) ++ t)
    have e : (acc ++ ((if k > 0 then ", " else "" : String) : Str) ++ t).length ≤ acc.length + 2 + t.length := by
      rw [strLen_append, strLen_append]
      have : (((if k > 0 then ", " else "" : String) : Str)).length ≤ 2 := by split <;> decide +kernel
      omega
    show (textFrom (k + 1) _ r).length ≤ _
    rw [piled_cons]
    omega
theorem listText_le (ts : List Str) : (listText ts).length ≤ piled ts + 2 := by
  unfold listText
  have h := textFrom_le ts 0 "["
  rw [strLen_append]
  have e1 : ((("[" : String) : Str)).length = 1 := rfl
  have e2 : ((("]" : String) : Str)).length = 1 := rfl
  omega
mutual
theorem D.shown_le : ∀ d : D, d.small = true → d.py.shown.length ≤ d.wt ∧ d.py.showable = true
  | .non, _ => ⟨by decide +kernel, rfl⟩
  | .bl b, _ => ⟨by cases b <;> decide +kernel, rfl⟩
  | .int i, h => by
    have h : i.natAbs < 2 ^ 60 := of_decide_eq_true h
    have hl : i.natAbs.log2 < 60 := by
      by_cases h0 : i.natAbs = 0
      · rw [h0]; decide
      · exact (Nat.log2_lt h0).mpr h
    refine ⟨?_, ?_⟩
    · show (Str.ofString (toString i)).length ≤ 66
      have := int_text_length_le (a := i) (k := 60) (by decide) hl
      rw [PySem.ofString_length]
      omega
    · show decide _ = true
      rw [decide_eq_true_eq]
      omega
  | .str x, h => by
    refine ⟨?_, rfl⟩
    have h : (x.cps.all (· < 0x110000) && (reprText x).cps.all (· < 0x110000)) = true := h
    rw [Bool.and_eq_true] at h
    have hx : ∀ c ∈ x.cps.toList, c < 16 ^ 8 := fun c hc => by
      have h' := (Array.all_eq_true_iff_forall_mem.mp h.1) c (by simpa using hc)
      have : c < 0x110000 := by simpa using h'
      omega
    have := StrLaws.reprText_len x hx
    show (reprText x).length ≤ 10 * x.length + 4
    omega
  | .tup l, h => by
    obtain ⟨a, b⟩ := D.shown_leL l h
    refine ⟨?_, by show PyData.showableAll _ = true; exact b⟩
    show (tupleText (PyData.shownAll (D.pyL l))).length ≤ D.wtL l + 4
    have := fmt_text (PyData.shownAll (D.pyL l))
    omega
  | .lst l, h => by
    obtain ⟨a, b⟩ := D.shown_leL l h
    refine ⟨?_, by show PyData.showableAll _ = true; exact b⟩
    show (listText (PyData.shownAll (D.pyL l))).length ≤ D.wtL l + 4
    have := listText_le (PyData.shownAll (D.pyL l))
    omega
  | .scr l, h => by
    obtain ⟨a, b⟩ := D.shown_leL l h
    refine ⟨?_, by show PyData.showableAll _ = true; exact b⟩
    show (listText (PyData.shownAll (D.pyL l))).length ≤ D.wtL l + 4
    have := listText_le (PyData.shownAll (D.pyL l))
    omega
  | .dct _ _, h => by cases h
theorem D.shown_leL : ∀ l : List D, D.smallL l = true → piled (PyData.shownAll (D.pyL l)) ≤ D.wtL l ∧ PyData.showableAll (D.pyL l) = true
  | [], _ => ⟨Nat.le_refl _, rfl⟩
  | d :: r, h => by
    unfold D.smallL at h
    rw [Bool.and_eq_true] at h
    obtain ⟨a, b⟩ := D.shown_le d h.1
    obtain ⟨a2, b2⟩ := D.shown_leL r h.2
    refine ⟨?_, ?_⟩
    · show piled (d.py.shown :: PyData.shownAll (D.pyL r)) ≤ d.wt + 2 + D.wtL r
      rw [piled_cons]
      omega
    · show (d.py.showable && PyData.showableAll (D.pyL r)) = true
      rw [b, b2]; rfl
end
def okS (x : Str) : Bool := x.cps.all (· < 0x110000)
theorem okS_app {x y : Str} : okS (x ++ y) = (okS x && okS y) := by
  show ((x.cps ++ y.cps).all _) = _
  rw [Array.all_append]
  rfl
theorem char_lt (c : Char) : c.toNat < 0x110000 := by
  rcases c.valid with h | ⟨_, h⟩
  · exact Nat.lt_trans h (by decide)
  · exact h
theorem okS_of (s : String) : okS (Str.ofString s) = true := by
  unfold okS
  rw [Str.ofString_eq_toList, Array.all_eq_true_iff_forall_mem]
  intro c hc
  simp only [List.mem_toArray, List.mem_map] at hc
  obtain ⟨a, _, rfl⟩ := hc
  exact decide_eq_true (char_lt a)
theorem okS_join : ∀ ts : List Str, (∀ t ∈ ts, okS t = true) → okS (Str.join ", " ts) = true
  | [], _ => okS_of ""
  | [x], h => h x (List.mem_cons_self ..)
  | x :: y :: r, h => by
    have ih := okS_join (y :: r) fun t ht => h t (List.mem_cons_of_mem _ ht)
    show okS (x ++ ", " ++ Str.join ", " (y :: r)) = true
    rw [okS_app, okS_app, ih, h x (List.mem_cons_self ..), okS_of]
    rfl
theorem okS_from : ∀ (ts : List Str) (k : Nat) (acc : Str), okS acc = true → (∀ t ∈ ts, okS t = true) → okS (textFrom k acc ts) = true
  | [], _, _, h, _ => h
  | t :: r, k, acc, h, ht => okS_from r (k + 1) _ (by rw [okS_app, okS_app, h, okS_of, ht t (List.mem_cons_self ..)]; rfl) fun x hx => ht x (List.mem_cons_of_mem _ hx)
mutual
theorem D.shown_okS : ∀ d : D, d.small = true → okS d.py.shown = true
  | .non, _ => okS_of _
  | .bl b, _ => by cases b <;> exact okS_of _
  | .int i, h => okS_of _
  | .str x, h => by
    have h : (x.cps.all (· < 0x110000) && (reprText x).cps.all (· < 0x110000)) = true := h
    rw [Bool.and_eq_true] at h
    exact h.2
  | .tup l, h => by
    show okS (tupleText (PyData.shownAll (D.pyL l))) = true
    unfold tupleText
    rw [okS_app, okS_app, okS_of, okS_of, okS_join _ (D.shown_okSL l h)]
    rfl
  | .lst l, h => by
    show okS (listText (PyData.shownAll (D.pyL l))) = true
    unfold listText
    rw [okS_app, okS_of, okS_from _ _ _ (okS_of _) (D.shown_okSL l h)]
    rfl
  | .scr l, h => by
    show okS (listText (PyData.shownAll (D.pyL l))) = true
    unfold listText
    rw [okS_app, okS_of, okS_from _ _ _ (okS_of _) (D.shown_okSL l h)]
    rfl
  | .dct _ _, h => by cases h
theorem D.shown_okSL : ∀ l : List D, D.smallL l = true → ∀ t ∈ PyData.shownAll (D.pyL l), okS t = true
  | [], _, t, ht => by simp [D.pyL, PyData.shownAll] at ht
  | d :: r, h, t, ht => by
    unfold D.smallL at h
    rw [Bool.and_eq_true] at h
    have ht : t ∈ d.py.shown :: PyData.shownAll (D.pyL r) := ht
    rcases List.mem_cons.mp ht with e | ht
    · rw [e]; exact D.shown_okS d h.1
    · exact D.shown_okSL r h.2 t ht
end
theorem FnOkG.bad {P : Program} {W : World} {K : PySem.W.Frag} {mg : Str → Option Value} {base : Heap} {C : CXT} {lv : Nat} {fa : Addr} {fd : FuncData} {pn : List Str} {np : Nat} : FnOkG P W K mg base C lv fa fd pn (spD K np fun _ => .bad) :=
  ⟨fun _ _ _ _ ⟨_, _, _, _, _, _, _, h, _⟩ => (nomatch h), fun _ _ _ _ _ _ _ _ _ _ _ _ _ ⟨_, _, _, _, _, _, _, h, _⟩ => (nomatch h)⟩
end Z

/-! Z: more lemmas to compute with. -/
namespace Z
open PySem PySem.Spec PyProof.Rows L2
section
variable {it : ItD} {g g1 : MG} {tt tt1 : MT} {mi1 : MI} {me : AE} {vs vs1 : List Nat} {α β : Type} {ρ : Env}
theorem loopC2_cons {d : D} {r : List D} : loopC2 it g tt mi1 g1 tt1 me vs vs1 (d :: r) ρ = (do
    let ρa ← g d [] ρ
    let (b, ρb) ← tt ρa
    if b then do
      let (it1, ρc) ← mi1 ρb
      if chkOk it1 (wipeE ρc vs1) then do
        let (acc1, ρd) ← loopC it1 g1 tt1 me vs1 it1.items (wipeE ρc vs1)
        if chkOk it (wipeE ρd vs) then do
          let (acc, ρe) ← loopC2 it g tt mi1 g1 tt1 me vs vs1 r (wipeE ρd vs)
          R.ok (acc1 ++ acc, ρe)
        else R.bad
      else R.bad
    else if chkOk it (wipeE ρb vs) then loopC2 it g tt mi1 g1 tt1 me vs vs1 r (wipeE ρb vs) else R.bad) := rfl
/-- two clauses without tests -/
theorem comp2_m (toD : α → D) (inner : α → List β) (toE : β → D) (f : α → β → D) (env : α → Env) (hck : chkOk it ρ = true) {ds : List α}
    (h : ∀ a ∈ ds, ∃ c1, g (toD a) [] ρ = .ok (env a) ∧ tt (env a) = .ok (true, env a) ∧ mi1 (env a) = .ok (⟨(inner a).map toE, c1⟩, env a) ∧ chkOk ⟨(inner a).map toE, c1⟩ (wipeE (env a) vs1) = true ∧
      (∀ b ∈ inner a, comp1 ⟨(inner a).map toE, c1⟩ g1 tt1 me vs1 (toE b) (wipeE (env a) vs1) = .ok (some (f a b), wipeE (env a) vs1)) ∧ wipeE (wipeE (env a) vs1) vs = ρ) :
    loopC2 it g tt mi1 g1 tt1 me vs vs1 (ds.map toD) ρ = .ok (ds.flatMap fun a => (inner a).map (f a), ρ) := by
  induction ds with
  | nil => rfl
  | cons a r ih =>
    obtain ⟨c1, h1, h2, h3, h4, h5, h6⟩ := h a (List.mem_cons_self ..)
    have e := comp_m (it := ⟨(inner a).map toE, c1⟩) (ρ := wipeE (env a) vs1) toE (f a) h5
    rw [List.map_cons, loopC2_cons, h1]
    simp only [R.ok_bind]
    rw [h2]
    simp only [R.ok_bind, if_true]
    rw [h3]
    simp only [R.ok_bind]
    rw [if_pos h4, e]
    simp only [R.ok_bind]
    rw [h6, if_pos hck, ih fun x hx => h x (List.mem_cons_of_mem _ hx)]
    rfl
end
@[simp] theorem mComp2_ap {mi mi1 : MI} {g g1 : MG} {tt tt1 : MT} {me : AE} {vs vs1 : List Nat} {ρ : Env} : mComp2 mi g tt mi1 g1 tt1 me vs vs1 ρ = (do
  let (it, ρ1) ← mi ρ
  if ownOk ρ1 vs && chkOk it (wipeE ρ1 vs) then do
    let (acc, ρ2) ← loopC2 it g tt mi1 g1 tt1 me vs vs1 it.items (wipeE ρ1 vs)
    if acc.length ≤ 16777216 then R.ok (.v ⟨.lst acc, 1⟩, restore ρ2 ρ1 vs) else R.bad
  else R.bad) := rfl
@[simp] theorem mSl_ap {a : AE} {lo hi : Option AE} {ρ : Env} : mSl a lo hi ρ = (do
  let (s, ρ1) ← a ρ
  let (l, ρ2) ← evO lo ρ1
  let (u, ρ3) ← evO hi ρ2
  match s.cell ρ3 with
  | some c => do
    let r ← fSl c l u
    R.ok (.v r, ρ3)
  | none => R.bad) := rfl
@[simp] theorem evO_none {ρ : Env} : evO none ρ = .ok (none, ρ) := rfl
@[simp] theorem evO_some {m : AE} {ρ : Env} : evO (some m) ρ = (do
    let (s, ρ1) ← m ρ
    match s.cell ρ1 with
    | some ⟨.int i, _⟩ => R.ok (some i, ρ1)
    | _ => R.bad) := rfl
@[simp] theorem fSl_tup {l : List D} {k : Nat} {a b : Option Int} : fSl ⟨.tup l, k⟩ a b = .ok ⟨.tup (cutD l a b), 0⟩ := rfl
@[simp] theorem fSl_lst1 {l : List D} {a b : Option Int} : fSl ⟨.lst l, 1⟩ a b = .ok ⟨.lst (cutD l a b), 1⟩ := rfl
@[simp] theorem fSl_lst0 {l : List D} {a b : Option Int} : fSl ⟨.lst l, 0⟩ a b = .ok ⟨.lst (cutD l a b), 1⟩ := rfl
@[simp] theorem f_tupT {l : List D} {k : Nat} : fTuple [⟨.tup l, k⟩] = .ok ⟨.tup l, 0⟩ := rfl
@[simp] theorem f_tupL0 {l : List D} : fTuple [⟨.lst l, 0⟩] = .ok ⟨.tup l, 0⟩ := rfl
@[simp] theorem f_listL1 {l : List D} : fList [⟨.lst l, 1⟩] = .ok ⟨.lst l, 1⟩ := rfl
@[simp] theorem f_listL0 {l : List D} : fList [⟨.lst l, 0⟩] = .ok ⟨.lst l, 1⟩ := rfl
theorem ixT {l : List D} {d : D} {i : Nat} {k k' : Nat} (h : l[i]? = some d) : fIx [⟨.tup l, k⟩, ⟨.int (i : Int), k'⟩] = .ok ⟨d, 0⟩ := by
  obtain ⟨hi, e⟩ := List.getElem?_eq_some_iff.mp h
  exact p_ixT ((atI_nat hi).trans (by rw [e]))
theorem ixL {l : List D} {d : D} {i : Nat} {k k' : Nat} (hk : k ≤ 1) (h : l[i]? = some d) : fIx [⟨.lst l, k⟩, ⟨.int (i : Int), k'⟩] = .ok ⟨d, 0⟩ := by
  obtain ⟨hi, e⟩ := List.getElem?_eq_some_iff.mp h
  exact p_ixL hk ((atI_nat hi).trans (by rw [e]))
theorem ixT0 {a : D} {r : List D} {k k' : Nat} : fIx [⟨.tup (a :: r), k⟩, ⟨.int 0, k'⟩] = .ok ⟨a, 0⟩ := ixT (i := 0) rfl
theorem ixT1 {a b : D} {r : List D} {k k' : Nat} : fIx [⟨.tup (a :: b :: r), k⟩, ⟨.int 1, k'⟩] = .ok ⟨b, 0⟩ := ixT (i := 1) rfl
theorem ixT2 {a b c : D} {r : List D} {k k' : Nat} : fIx [⟨.tup (a :: b :: c :: r), k⟩, ⟨.int 2, k'⟩] = .ok ⟨c, 0⟩ := ixT (i := 2) rfl
theorem ixT3 {a b c d : D} {r : List D} {k k' : Nat} : fIx [⟨.tup (a :: b :: c :: d :: r), k⟩, ⟨.int 3, k'⟩] = .ok ⟨d, 0⟩ := ixT (i := 3) rfl
theorem ixT4 {a b c d e : D} {r : List D} {k k' : Nat} : fIx [⟨.tup (a :: b :: c :: d :: e :: r), k⟩, ⟨.int 4, k'⟩] = .ok ⟨e, 0⟩ := ixT (i := 4) rfl
theorem asBls_map' (l : List Bool) : asBls (l.map D.bl) = some l := by
  induction l with
  | nil => rfl
  | cons a r ih => rw [List.map_cons, asBls, ih]
theorem f_allL {l : List Bool} : fAll [⟨.lst (l.map D.bl), 1⟩] = .ok ⟨.bl (l.all id), 0⟩ := by
  unfold fAll onBls
  simp only [asBls_map']
  first | done | simp
theorem f_anyL {l : List Bool} : fAny [⟨.lst (l.map D.bl), 1⟩] = .ok ⟨.bl (l.any id), 0⟩ := by
  unfold fAny onBls
  simp only [asBls_map']
  first | done | simp
/-! ### rows of parts -/
def prodL {α : Type} (parts : List (List α)) : List (List α) := parts.foldl (fun rows part => rows.flatMap fun row => part.map fun x => row ++ [x]) [[]]
theorem prodL_snoc {α : Type} (parts : List (List α)) (p : List α) : prodL (parts ++ [p]) = (prodL parts).flatMap fun row => p.map fun x => row ++ [x] := by
  unfold prodL
  rw [List.foldl_append]
  rfl
theorem prodL_foldl {α : Type} : ∀ (parts : List (List α)) (rows : List (List α)), parts.foldl (fun rows part => rows.flatMap fun row => part.map fun x => row ++ [x]) rows = rows.flatMap fun row => (prodL parts).map fun z => row ++ z
  | [], rows => by simp [prodL]
  | p :: ps, rows => by
    have e : prodL (p :: ps) = ([[]].flatMap fun row => p.map fun x => row ++ [x]).flatMap fun row => (prodL ps).map fun z => row ++ z := prodL_foldl ps _
    rw [List.foldl_cons, prodL_foldl ps, e]
    simp [List.flatMap_assoc, List.map_flatMap, List.flatMap_map, Function.comp_def, List.append_assoc]
theorem prodL_cons {α : Type} (p : List α) (parts : List (List α)) : prodL (p :: parts) = p.flatMap fun x => (prodL parts).map fun z => x :: z := by
  have := prodL_foldl parts (p.map fun x => [x])
  show parts.foldl _ ([[]].flatMap fun row => p.map fun x => row ++ [x]) = _
  simp only [List.flatMap_cons, List.flatMap_nil, List.append_nil, List.nil_append]
  rw [this, List.flatMap_map]
  rfl
theorem prodL_length {α : Type} : ∀ parts : List (List α), (prodL parts).length = (parts.map List.length).foldr (· * ·) 1
  | [] => rfl
  | p :: ps => by
    rw [prodL_cons, List.map_cons, List.foldr_cons, ← prodL_length ps]
    induction p with
    | nil => simp
    | cons a r ih => rw [List.flatMap_cons, List.length_append, ih, List.length_map, List.length_cons, Nat.succ_mul]; omega
theorem prodL_mem {α : Type} : ∀ {parts : List (List α)} {row : List α}, row ∈ prodL parts ↔ Paired (fun x p => x ∈ p) row parts
  | [], row => by
    show row ∈ [[]] ↔ _
    rw [List.mem_singleton]
    exact ⟨fun h => h ▸ .nil, fun h => by cases h; rfl⟩
  | p :: ps, row => by
    rw [prodL_cons, List.mem_flatMap]
    constructor
    · rintro ⟨x, hx, h⟩
      obtain ⟨z, hz, rfl⟩ := List.mem_map.mp h
      exact .cons hx (prodL_mem.mp hz)
    · intro h
      cases h with
      | cons hx hz => exact ⟨_, hx, List.mem_map.mpr ⟨_, prodL_mem.mpr hz, rfl⟩⟩
end Z

/-! Z: lists of lists that are changed. -/
namespace Z
open PySem PySem.Spec PyProof.Rows L2
/-! ### [[..], [..]], to be changed -/
def freshes : List Src → Option (List (List D))
  | [] => some []
  | .v ⟨.lst l, 1⟩ :: r => (freshes r).map (l :: ·)
  | _ => none
def mLst2 (ms : List AE) : AE := fun ρ => do
  let (ss, ρ1) ← evs ms ρ
  match freshes ss with
  | some ls => R.ok (.v ⟨.lst (ls.map D.lst), 2⟩, ρ1)
  | none => R.bad
/-- all temps from n on are n's -/
def OM.from (w : OM) (n : Nat) : OM := fun a => match w a with
  | .tm m => if n ≤ m then .tm n else .tm m
  | o => o
theorem OM.from_no {w : OM} {n : Nat} {a : Addr} (h : w a = .no) : w.from n a = .no := by unfold OM.from; rw [h]
theorem OM.from_sl {w : OM} {n i : Nat} {a : Addr} (h : w a = .sl i) : w.from n a = .sl i := by unfold OM.from; rw [h]
theorem OM.from_tm {w : OM} {n m : Nat} {a : Addr} (h : w a = .tm m) (hm : n ≤ m) : w.from n a = .tm n := by unfold OM.from; rw [h]; exact if_pos hm
theorem OM.from_fixed {w : OM} {n : Nat} {a : Addr} (h : Fixed n (w a)) : w.from n a = w a := by
  unfold OM.from
  rcases h with h | h | ⟨j, hj, h⟩
  · rw [h]
  · rw [h]
  · rw [h]; exact if_neg (by omega)
section
variable {X : Cx} {K : PySem.W.Frag} {H : Hp} {w : OM} {σ : L2.St} {ρ : Env} {n : Nat}
theorem Ok.from (ok : Ok K H w σ ρ) (n : Nat) : Ok K H (w.from n) σ ρ := by
  refine ⟨ok.len, fun i c e => ?_, fun a h => ok.live a fun z => h (OM.from_no z)⟩
  obtain ⟨v, e1, q⟩ := ok.slot i c e
  exact ⟨v, e1, q.map (fun a z => OM.from_no z) fun a z => OM.from_sl z⟩
theorem freshes_ow : ∀ {ss : List Src} {vs : List V} {ls : List (List D)} {m : Nat}, SrcsAt K H w σ m ss vs → n ≤ m → freshes ss = some ls →
    Ow1L K H (w.from n) (.tm n) (ls.map D.lst) vs ∧ vs.Nodup ∧ ∀ v ∈ vs, ∃ a j, v = .ref a ∧ w a = .tm j ∧ m ≤ j ∧ H a ≠ none
  | [], [], ls, m, _, _, e => by cases e; exact ⟨.nil, List.nodup_nil, fun v hv => by simp at hv⟩
  | [], _ :: _, _, _, h, _, _ => h.elim
  | _ :: _, [], _, _, h, _, _ => h.elim
  | s :: ss, v :: vs, ls, m, ⟨h, t⟩, hm, e => by
    unfold freshes at e
    split at e
    · rename_i heq; cases heq
    · rename_i l r heq
      obtain ⟨rfl, rfl⟩ := List.cons.inj heq
      obtain ⟨ls', e1, rfl⟩ := Option.map_eq_some_iff.mp e
      obtain ⟨a1, a2, a3⟩ := freshes_ow t (by omega) e1
      have h : Ow K H w (.tm m) 1 (.lst l) v := h
      cases h with
      | lst hH hw hf =>
        rename_i a us
        have hna : V.ref a ∉ vs := fun z => by
          obtain ⟨b, j, e, hb, hj, _⟩ := a3 _ z
          cases e
          rw [hw] at hb
          cases hb
          omega
        refine ⟨.cons hH (OM.from_tm hw hm) (hf.map fun a z => OM.from_no z) a1, List.nodup_cons.mpr ⟨hna, a2⟩, fun u hu => ?_⟩
        rcases List.mem_cons.mp hu with rfl | hu
        · exact ⟨a, m, rfl, hw, Nat.le_refl m, by rw [hH]; exact fun z => nomatch z⟩
        · obtain ⟨b, j, e, hb, hj, hl⟩ := a3 _ hu
          exact ⟨b, j, e, hb, by omega, hl⟩
    · cases e
theorem Ow1L.step2 {H' : Hp} {w' : OM} {o : Own} (k : Kp .no H w H' w') : ∀ {ds : List D} {vs : List V}, Ow1L K H w o ds vs → (∀ a, V.ref a ∈ vs → H' a = H a ∧ w' a = w a) → Ow1L K H' w' o ds vs
  | _, _, .nil, _ => .nil
  | _, _, .cons h n t r, q => .cons ((q _ (List.mem_cons_self ..)).1.trans h) ((q _ (List.mem_cons_self ..)).2.trans n) (t.step k) (Ow1L.step2 k r fun a ha => q a (List.mem_cons_of_mem _ ha))
theorem sa_lst2 {es : List Expr} {ms : List AE} {pos : Pos} (h : SAs X es ms) (hl : ms.length ≤ 1000 := by decide) : SA X (.List es pos) (mLst2 ms) := by
  obtain ⟨t, p, g⟩ := h.ex
  refine ⟨_, pe_lst p, fun n σ H w ρ s ρ' Q ok hm k => ?_⟩
  obtain ⟨⟨ss, ρ1⟩, e1, hm⟩ := R.of_bind hm
  dsimp only at hm
  split at hm
  · rename_i ls hls
    cases hm
    refine g n σ H w ρ ss _ _ ok e1 fun vs H1 w1 ok1 st1 sa => ?_
    obtain ⟨a1, a2, a3⟩ := freshes_ow sa (Nat.le_refl n) hls
    refine ⟨by rw [sizeLine_eq, ← sa.length, evs_length e1]; omega, fun p hp => ?_⟩
    have hpv : V.ref p ∉ vs := fun z => by
      obtain ⟨b, j, e, _, _, hb⟩ := a3 _ z
      cases e
      exact hb hp
    have st2 : Step n H1 w1 H1 (w1.from n) := fun a x e f => ⟨e, OM.from_fixed f⟩
    refine k _ _ ((w1.from n).put p (.tm n)) ((ok1.from n).new hp _) ((st1.trans st2).trans (Step.new hp)) ?_
    refine .lst2 upd_same OM.put_same (a1.step2 (Kp.new hp .no) fun a ha => ?_) (List.nodup_cons.mpr ⟨hpv, a2⟩)
    have hap : a ≠ p := fun z => hpv (z ▸ ha)
    exact ⟨upd_ne hap, OM.put_ne hap⟩
  · cases hm
/-! ### a slot with a list of lists -/
theorem Ok.slot2 {i : Nat} {ls : List D} (ok : Ok K H w σ ρ) (hi : ρ.get i = some ⟨.lst ls, 2⟩) : ∃ a vs, σ[i]? = some (some (.ref a)) ∧ H a = some (.lst vs) ∧ w a = .sl i ∧ Ow1L K H w (.sl i) ls vs ∧ (V.ref a :: vs).Nodup := by
  obtain ⟨v, e, ow⟩ := ok.slot i _ hi
  cases ow with
  | lst2 h n t nd => exact ⟨_, _, e, h, n, t, nd⟩
theorem Ow1L.own {o : Own} : ∀ {ds : List D} {vs : List V}, Ow1L K H w o ds vs → ∀ a, V.ref a ∈ vs → w a = o ∧ H a ≠ none
  | _, _, .nil, a, h => by simp at h
  | _, _, .cons h n _ r, a, ha => by
    rcases List.mem_cons.mp ha with e | ha
    · cases e; exact ⟨n, by rw [h]; exact fun z => nomatch z⟩
    · exact Ow1L.own r a ha
theorem Ow1L.snoc {o : Own} {b : Addr} {us : List V} {l : List D} : ∀ {ds : List D} {vs : List V}, Ow1L K H w o ds vs → H b = some (.lst us) → w b = o → FzL K H w l us → Ow1L K H w o (ds ++ [.lst l]) (vs ++ [.ref b])
  | _, _, .nil, h, n, t => .cons h n t .nil
  | _, _, .cons h1 n1 t1 r, h, n, t => .cons h1 n1 t1 (Ow1L.snoc r h n t)
/-- the slot i is given to the temp n while something is worked out -/
theorem Ok.lend {i n : Nat} (ok : Ok K H w σ ρ) : Ok K H (w.re (.sl i) (.tm n)) σ (ρ.set i none) := by
  refine ⟨by rw [Env.length_set]; exact ok.len, fun j x q => ?_, fun a h => ?_⟩
  · rcases Env.get_set q with ⟨_, z⟩ | ⟨hj, z⟩
    · cases z
    · obtain ⟨u, e1, ow⟩ := ok.slot j x z
      exact ⟨u, e1, ow.other (by intro z; cases z) (by intro z; cases z; exact hj rfl)⟩
  · by_cases z : w a = .sl i
    · exact ok.live a (by rw [z]; intro q; cases q)
    · rw [OM.re_ne z] at h; exact ok.live a h
/-- the slot i takes what the temp n has -/
theorem Ok.giveBack {i n : Nat} {a : Addr} {vs : List V} {ls : List D} (ok : Ok K H w σ ρ) (hs : σ[i]? = some (some (.ref a))) (hH : H a = some (.lst vs)) (hw : w a = .tm n) (o1 : Ow1L K H w (.tm n) ls vs) (nd : (V.ref a :: vs).Nodup) :
    Ok K H (w.re (.tm n) (.sl i)) σ (ρ.set i (some ⟨.lst ls, 2⟩)) := by
  refine ⟨by rw [Env.length_set]; exact ok.len, fun j x q => ?_, fun b h => ?_⟩
  · rcases Env.get_set q with ⟨ej, z⟩ | ⟨hj, z⟩
    · subst ej
      cases z
      exact ⟨_, hs, .lst2 hH (OM.re_eq hw) (o1.re (by intro z; cases z)) nd⟩
    · obtain ⟨u, e1, ow⟩ := ok.slot j x z
      exact ⟨u, e1, ow.other (by intro z; cases z) (by intro z; cases z)⟩
  · by_cases z : w b = .tm n
    · exact ok.live b (by rw [z]; intro q; cases q)
    · rw [OM.re_ne z] at h; exact ok.live b h
/-- x.append([..]) -/
def mApp2 (i : Nat) (m : AE) : AE := fun ρ => match ρ.get i with
  | some ⟨.lst _, 2⟩ => do
    let (s, ρ1) ← m ρ
    match s, ρ1.get i with
    | .v ⟨.lst l, 1⟩, some ⟨.lst ls, 2⟩ => if ls.length < 16777216 then R.ok (.v (Cell.fz .non), ρ1.set i (some ⟨.lst (ls ++ [.lst l]), 2⟩)) else R.bad
    | _, _ => R.bad
  | _ => R.bad
theorem sa_app2 {i : Nat} {x : Str} {e : Expr} {m : AE} {p apos cpos : Pos} (ha : SA X e m)
    (hN : X.N[i]? = some x := by rfl) (hv : Vis X.env.scope x := by first | exact Or.inl rfl | exact Or.inr (Or.inl rfl) | exact Or.inr (Or.inr rfl)) (hd : (x == ("__debug__" : Str)) = false := by decide) (hcd : (x == ("__classdict__" : Str)) = false := by decide)
    (hbase : attributeBase (.Name x p) "append" X.env (eval (.Name x p) X.env) = eval (.Name x p) X.env := by rfl)
    (hfew : ((backTo cpos (starEach [e] X.env)).all (fun x => !x.1) && (backToKw cpos (keywordEach [] X.env)).all (fun x => x.1.isSome)
      && decide (([e] : List Expr).length + ([] : List Keyword).length + (if ([] : List Keyword).isEmpty then 0 else 1) < 30)) = true := by rfl)
    (hline : (apos.endLine == cpos.line) = true := by rfl) (hst : starEach [e] X.env = (false, eval e X.env) :: starEach [] X.env := by rfl) (hplain : (backTo cpos (starEach [] X.env)).any (·.1) = false := by rfl) :
    SA X (.Call (.Attribute (.Name x p) "append" apos) [e] [] cpos) (mApp2 i m) := by
  obtain ⟨t, q, g⟩ := ha.ex
  refine ⟨_, pe_bm PySem.F.plainAttrs_list PySem.F.slot_list_append PySem.F.type_list_append mt_append (pe_var hN hv hd hcd) (pa_cons q pa_nil hst) hbase hfew hline hst hplain, fun n σ H w ρ s ρ' Q ok hm k => ?_⟩
  unfold mApp2 at hm
  split at hm
  · rename_i l0 hl0
    obtain ⟨⟨s1, ρ1⟩, e1, hm⟩ := R.of_bind hm
    dsimp only at hm
    split at hm
    · rename_i l ls hls
      split at hm
      · rename_i hlen
        cases hm
        obtain ⟨a, vs0, ea, hH0, _⟩ := ok.slot2 hl0
        refine ⟨_, ea, .inl ⟨rfl, vs0, .inl (.inl hH0)⟩, ?_⟩
        refine g n σ H w ρ _ _ _ ok e1 fun v H1 w1 ok1 st1 sa => ?_
        obtain ⟨a2, vs, ea2, hH2, hw2, o2, nd⟩ := ok1.slot2 hls
        rw [ea] at ea2
        cases ea2
        have sa : Ow X.K H1 w1 (.tm n) 1 (.lst l) v := sa
        cases sa with
        | lst hb hwb hfb =>
          rename_i b us
          have hba : b ≠ a := fun z => by rw [z, hw2] at hwb; cases hwb
          have hbv : V.ref b ∉ vs := fun z => by
            have := (o2.own b z).1
            rw [hwb] at this; cases this
          have hav : V.ref a ∉ vs := (List.nodup_cons.mp nd).1
          refine ⟨a, vs, _, rfl, rfl, hH2, by rw [sizeLine_eq, ← o2.sqs]; exact hlen, ?_⟩
          have ow' := w1.re (.tm n) (.sl i)
          have kp : Kp .no H1 w1 (upd H1 a (.lst (vs ++ [.ref b]))) (w1.re (.tm n) (.sl i)) := fun c y e f => by
            have f : w1 c = .no := f.elim id id
            have hca : c ≠ a := fun z => by rw [z, hw2] at f; cases f
            exact ⟨by rw [upd_ne hca]; exact e, OM.re_ne (by rw [f]; intro z; cases z)⟩
          refine k .non _ (w1.re (.tm n) (.sl i)) ⟨by rw [Env.length_set]; exact ok1.len, fun j y z => ?_, fun c h => ?_⟩ ?_ (.fz .non)
          · rcases Env.get_set z with ⟨ej, zz⟩ | ⟨hj, zz⟩
            · subst ej
              cases zz
              refine ⟨_, ea, .lst2 upd_same ((OM.re_ne (by rw [hw2]; intro z; cases z)).trans hw2) (Ow1L.snoc (us := us) ?_ ((upd_ne hba).trans hb) (OM.re_eq hwb) (hfb.step kp)) ?_⟩
              · refine o2.step2 kp fun c hc => ⟨upd_ne fun z => hav (z ▸ hc), OM.re_ne ?_⟩
                rw [(o2.own c hc).1]; intro z; cases z
              · rw [← List.cons_append]
                refine List.nodup_append.mpr ⟨nd, by simp, fun y hy z hz => ?_⟩
                rw [List.mem_singleton] at hz
                subst hz
                rcases List.mem_cons.mp hy with rfl | hy
                · intro z; cases z; exact hba rfl
                · intro z; exact hbv (z ▸ hy)
            · obtain ⟨u, e3, ow⟩ := ok1.slot j y zz
              refine ⟨u, e3, ow.step fun c y e f => ?_⟩
              have hca : c ≠ a := fun z => by
                rw [z, hw2] at f
                rcases f with f | f
                · cases f
                · cases f; exact hj rfl
              refine ⟨by rw [upd_ne hca]; exact e, OM.re_ne ?_⟩
              rcases f with f | f <;> rw [f] <;> intro z <;> cases z
          · by_cases hca : c = a
            · subst hca; rw [upd_same]; exact fun z => nomatch z
            · rw [upd_ne hca]
              by_cases hct : w1 c = .tm n
              · exact ok1.live c (by rw [hct]; intro z; cases z)
              · rw [OM.re_ne hct] at h; exact ok1.live c h
          · refine st1.trans fun c y e f => ?_
            have hca : c ≠ a := fun z => by rw [z, hw2] at f; exact not_fixed_sl f
            refine ⟨by rw [upd_ne hca]; exact e, OM.re_ne fun z => ?_⟩
            rw [z] at f; exact not_fixed_tm f
      · cases hm
    · cases hm
  · cases hm
theorem Ow1L.at {o : Own} {l : List D} : ∀ {ds : List D} {vs : List V} (q : Nat), Ow1L K H w o ds vs → ds[q]? = some (.lst l) → ∃ b us, vs[q]? = some (.ref b) ∧ H b = some (.lst us) ∧ w b = o ∧ FzL K H w l us
  | _, _, 0, .cons h n t _, e => by
    rw [List.getElem?_cons_zero] at e
    cases e
    exact ⟨_, _, List.getElem?_cons_zero, h, n, t⟩
  | _, _, q + 1, .cons _ _ _ r, e => by
    rw [List.getElem?_cons_succ] at e
    rw [List.getElem?_cons_succ]
    exact Ow1L.at q r e
  | _, _, q, .nil, e => by simp at e
theorem Ow1L.write {o : Own} {b : Addr} {us : List V} {l : List D} (hb : w b = o) (ho : o ≠ .no) (t : FzL K H w l us) : ∀ {ds : List D} {vs : List V} (q : Nat), Ow1L K H w o ds vs → vs.Nodup → vs[q]? = some (.ref b) → Ow1L K (upd H b (.lst us)) w o (ds.set q (.lst l)) vs
  | _, _, 0, .cons h n t1 r, nd, e => by
    rw [List.getElem?_cons_zero] at e
    cases e
    rw [List.set_cons_zero]
    have kp : Kp .no H w (upd H b (.lst us)) w := Kp.write (by rw [hb]; exact ho) (by rw [hb]; exact ho)
    exact .cons upd_same n (t.step kp) (r.step2 kp fun c hc => ⟨upd_ne fun z => (List.nodup_cons.mp nd).1 (z ▸ hc), rfl⟩)
  | _, _, q + 1, .cons h n t1 r, nd, e => by
    rw [List.getElem?_cons_succ] at e
    rw [List.set_cons_succ]
    have kp : Kp .no H w (upd H b (.lst us)) w := Kp.write (by rw [hb]; exact ho) (by rw [hb]; exact ho)
    exact .cons ((upd_ne (by
      intro z
      exact (List.nodup_cons.mp nd).1 (z ▸ List.mem_of_getElem? e))).trans h) n (t1.step kp) (Ow1L.write hb ho t q r (List.nodup_cons.mp nd).2 e)
  | _, _, q, .nil, nd, e => by simp at e
/-- x[i].append(v) -/
def mAppIx (i : Nat) (mi m : AE) : AE := fun ρ => match ρ.get i with
  | some ⟨.lst _, 2⟩ => do
    let (si, ρ1) ← mi ρ
    match si.cell ρ1, ρ1.get i with
    | some ⟨.int j, _⟩, some ⟨.lst ls, 2⟩ =>
      match ixN ls.length j with
      | some q => match ls[q]? with
        | some (.lst l) => do
          let (s, ρ2) ← m (ρ1.set i none)
          let (c, ρ3) ← esc s ρ2
          if l.length < 16777216 then R.ok (.v (Cell.fz .non), ρ3.set i (some ⟨.lst (ls.set q (.lst (l ++ [c.d]))), 2⟩)) else R.bad
        | _ => R.bad
      | none => R.bad
    | _, _ => R.bad
  | _ => R.bad
theorem sa_appIx {i : Nat} {x : Str} {b e : Expr} {mi m : AE} {p tp apos cpos : Pos} (hb : SA X b mi) (ha : SA X e m)
    (hN : X.N[i]? = some x := by rfl) (hv : Vis X.env.scope x := by first | exact Or.inl rfl | exact Or.inr (Or.inl rfl) | exact Or.inr (Or.inr rfl)) (hd : (x == ("__debug__" : Str)) = false := by decide) (hcd : (x == ("__classdict__" : Str)) = false := by decide)
    (hs : PlainIx b := by exact fun _ _ => rfl)
    (hbase : attributeBase (.Subscript (.Name x p) b tp) "append" X.env (eval (.Subscript (.Name x p) b tp) X.env) = eval (.Subscript (.Name x p) b tp) X.env := by rfl)
    (hfew : ((backTo cpos (starEach [e] X.env)).all (fun x => !x.1) && (backToKw cpos (keywordEach [] X.env)).all (fun x => x.1.isSome)
      && decide (([e] : List Expr).length + ([] : List Keyword).length + (if ([] : List Keyword).isEmpty then 0 else 1) < 30)) = true := by rfl)
    (hline : (apos.endLine == cpos.line) = true := by rfl) (hst : starEach [e] X.env = (false, eval e X.env) :: starEach [] X.env := by rfl) (hplain : (backTo cpos (starEach [] X.env)).any (·.1) = false := by rfl) :
    SA X (.Call (.Attribute (.Subscript (.Name x p) b tp) "append" apos) [e] [] cpos) (mAppIx i mi m) := by
  obtain ⟨t, q, g⟩ := ha.ex
  obtain ⟨u, q2, g2⟩ := hb.ex
  refine ⟨_, pe_bm PySem.F.plainAttrs_list PySem.F.slot_list_append PySem.F.type_list_append mt_append (pe_ix ix_seq (pe_var hN hv hd hcd) q2 hs) (pa_cons q pa_nil hst) hbase hfew hline hst hplain, fun n σ H w ρ s ρ' Q ok hm k => ?_⟩
  unfold mAppIx at hm
  split at hm
  · rename_i l0 hl0
    obtain ⟨⟨si, ρ1⟩, e1, hm⟩ := R.of_bind hm
    dsimp only at hm
    split at hm
    · rename_i j _ ls hsi hls
      split at hm
      · rename_i iq hiq
        split at hm
        · rename_i l hl
          obtain ⟨⟨s1, ρ2⟩, e2, hm⟩ := R.of_bind hm
          obtain ⟨⟨c, ρ3⟩, e3, hm⟩ := R.of_bind hm
          dsimp only at hm
          split at hm
          · rename_i hlen
            cases hm
            obtain ⟨a, vs0, ea, hH0, _⟩ := ok.slot2 hl0
            refine ⟨_, ea, g2 n σ H w ρ _ _ _ ok e1 fun vi H1 w1 ok1 st1 sa1 => ?_⟩
            obtain ⟨oi, _, hi⟩ := sa1.cell ok1 hsi
            cases ow_int hi
            obtain ⟨a', vs, ea', hH1, hw1, o1, nd⟩ := ok1.slot2 hls
            rw [ea] at ea'
            cases ea'
            obtain ⟨b, us, hvb, hHb, hwb, fb⟩ := o1.at iq hl
            have hat : atI vs j = some (.ref b) := by
              unfold atI
              rw [← o1.sqs, hiq]
              exact hvb
            refine .inl ⟨a, vs, j, .ref b, rfl, rfl, .inl (.inl hH1), hat, ?_⟩
            refine ⟨.inl ⟨rfl, us, .inl (.inl hHb)⟩, ?_⟩
            have okl := ok1.lend (i := i) (n := n)
            have hw1' : w1.re (.sl i) (.tm n) a = .tm n := OM.re_eq hw1
            have hwb' : w1.re (.sl i) (.tm n) b = .tm n := OM.re_eq hwb
            have fl : Fixed (n + 1) (.tm n) := .inr (.inr ⟨n, by omega, rfl⟩)
            refine g (n + 1) σ H1 _ _ s1 _ _ okl e2 fun v H2 w2 ok2 st2 sa2 => ?_
            obtain ⟨w3, ok3, st3, ow3, _⟩ := esc_ok ok2 sa2 e3
            have st23 : Step (n + 1) H1 (w1.re (.sl i) (.tm n)) H2 w3 := st2.trans (st3 _)
            have st4 : Step (n + 1) H1 (w1.re (.sl i) (.tm n)) H2 (w3.re (.tm (n + 1)) .no) := st23.trans (Step.re not_fixed_tm)
            have ok4 : Ok X.K H2 (w3.re (.tm (n + 1)) .no) σ ρ3 := ok3.re (by intro z; cases z) (by intro i z; cases z)
            have fz4 : Fz X.K H2 (w3.re (.tm (n + 1)) .no) c.d v := ow3.freeze (by intro z; cases z)
            have o4 : Ow1L X.K H2 (w3.re (.tm (n + 1)) .no) (.tm n) ls vs := (o1.re (by intro z; cases z)).step (st4.kp fl)
            have ha4 := st4 a _ hH1 (by rw [hw1']; exact fl)
            have hb4 := st4 b _ hHb (by rw [hwb']; exact fl)
            generalize w3.re (.tm (n + 1)) .no = w4 at st4 ok4 fz4 o4 ha4 hb4
            have hwb4 : w4 b = .tm n := hb4.2.trans hwb'
            have hwa4 : w4 a = .tm n := ha4.2.trans hw1'
            have fb4 : FzL X.K H2 w4 l us := (fb.re (by intro z; cases z)).step (st4.kp fl)
            refine ⟨b, us, v, rfl, rfl, hb4.1, by rw [sizeLine_eq, ← fb.length]; exact hlen, ?_⟩
            have hab : a ≠ b := fun z => (List.nodup_cons.mp nd).1 (z ▸ List.mem_of_getElem? hvb)
            have kp : Kp .no H2 w4 (upd H2 b (.lst (us ++ [v]))) w4 := Kp.write (by rw [hwb4]; intro z; cases z) (by rw [hwb4]; intro z; cases z)
            have o5 : Ow1L X.K (upd H2 b (.lst (us ++ [v]))) w4 (.tm n) (ls.set iq (.lst (l ++ [c.d]))) vs := o4.write hwb4 (by intro z; cases z) (fb4.append (.cons fz4 .nil)) iq (List.nodup_cons.mp nd).2 hvb
            have ok5 : Ok X.K (upd H2 b (.lst (us ++ [v]))) w4 σ ρ3 := ok4.write hwb4
            refine k .non _ _ (ok5.giveBack (i := i) ea ((upd_ne hab).trans ha4.1) hwa4 o5 nd) ?_ (.fz .non)
            refine st1.trans ((Step.re (o' := .tm n) (not_fixed_sl (i := i))).trans (((st4.mono (Nat.le_succ n)).trans (Step.write ?_)).trans (Step.re not_fixed_tm)))
            rw [hwb4]; exact not_fixed_tm
          · cases hm
        · cases hm
      · cases hm
    · cases hm
  · cases hm
end
end Z

/-! Z: == and in, of things without truth values. -/
namespace Z
open PySem PySem.Spec PyProof.Rows L2
/-- ints, strings, None and tuples of such, at most n deep -/
def D.pl : Nat → D → Bool
  | _, .non => true
  | _, .int _ => true
  | _, .str x => D.okd.strOk x
  | n + 1, .tup l => l.all (D.pl n)
  | _, _ => false
theorem D.pl_okd : ∀ (n : Nat) (d : D), d.pl n = true → d.okd n = true
  | _, .non, _ => by simp [D.okd]
  | _, .int _, _ => by simp [D.okd]
  | _, .str x, h => by simpa [D.okd, D.pl] using h
  | 0, .tup l, h => by simp [D.pl] at h
  | n + 1, .tup l, h => by
    simp only [D.pl, D.okd, List.all_eq_true] at h ⊢
    exact fun d hd => D.pl_okd n d (h d hd)
  | _, .bl _, h => by simp [D.pl] at h
  | _, .lst _, h => by simp [D.pl] at h
  | _, .scr _, h => by simp [D.pl] at h
  | _, .dct _ _, h => by simp [D.pl] at h
theorem eqvAll_dec : ∀ {l m : List D}, (∀ x ∈ l, ∀ y ∈ m, x.eqv y = decide (x = y)) → PyData.eqvAll (D.pyL l) (D.pyL m) = decide (l = m)
  | [], [], _ => by simp [D.pyL, PyData.eqvAll]
  | [], _ :: _, _ => by simp [D.pyL, PyData.eqvAll]
  | _ :: _, [], _ => by simp [D.pyL, PyData.eqvAll]
  | x :: l, y :: m, h => by
    have h1 := h x (by simp) y (by simp)
    have h2 := eqvAll_dec (l := l) (m := m) fun a ha b hb => h a (by simp [ha]) b (by simp [hb])
    unfold D.eqv at h1
    simp only [D.pyL, PyData.eqvAll, h1, h2, List.cons.injEq, Bool.decide_and]
theorem eqv_pl : ∀ (n : Nat) (x y : D), x.pl n = true → y.pl n = true → x.eqv y = decide (x = y)
  | n, .tup l, .tup m, h, h' => by
    cases n with
    | zero => simp [D.pl] at h
    | succ n =>
      simp only [D.pl, List.all_eq_true] at h h'
      have := eqvAll_dec (l := l) (m := m) fun x hx y hy => eqv_pl n x y (h x hx) (h' y hy)
      show PyData.eqvAll (D.pyL l) (D.pyL m) = _
      rw [this]
      simp
  | _, .non, .non, _, _ => by show true = _; simp
  | _, .int a, .int b, _, _ => by show (a == b) = _; by_cases q : a = b <;> simp [q]
  | _, .str a, .str b, _, _ => by show (a == b) = _; by_cases q : a = b <;> simp [q]
  | _, .non, .int _, _, _ => by show false = _; simp
  | _, .non, .str _, _, _ => by show false = _; simp
  | _, .non, .tup _, _, _ => by show false = _; simp
  | _, .int _, .non, _, _ => by show false = _; simp
  | _, .int _, .str _, _, _ => by show false = _; simp
  | _, .int _, .tup _, _, _ => by show false = _; simp
  | _, .str _, .non, _, _ => by show false = _; simp
  | _, .str _, .int _, _, _ => by show false = _; simp
  | _, .str _, .tup _, _, _ => by show false = _; simp
  | _, .tup _, .non, _, _ => by show false = _; simp
  | _, .tup _, .int _, _, _ => by show false = _; simp
  | _, .tup _, .str _, _, _ => by show false = _; simp
  | _, .bl _, _, h, _ => by simp [D.pl] at h
  | _, .lst _, _, h, _ => by simp [D.pl] at h
  | _, .scr _, _, h, _ => by simp [D.pl] at h
  | _, .dct _ _, _, h, _ => by simp [D.pl] at h
  | _, _, .bl _, _, h => by simp [D.pl] at h
  | _, _, .lst _, _, h => by simp [D.pl] at h
  | _, _, .scr _, _, h => by simp [D.pl] at h
  | _, _, .dct _ _, _, h => by simp [D.pl] at h
theorem any_pl {x : D} {l : List D} (h : x.pl 60 = true) (h' : ∀ y ∈ l, y.pl 60 = true) : (l.any fun z => z.eqv x) = decide (x ∈ l) := by
  induction l with
  | nil => simp
  | cons a r ih =>
    rw [List.any_cons, ih fun y hy => h' y (by simp [hy]), eqv_pl 60 a x (h' a (by simp)) h]
    by_cases q : a = x
    · simp [q]
    · simp [q, Ne.symm q]
theorem pl_mono : ∀ (n : Nat) (d : D), d.pl n = true → d.pl (n + 1) = true
  | _, .non, _ => by simp [D.pl]
  | _, .int _, _ => by simp [D.pl]
  | _, .str _, h => by simpa [D.pl] using h
  | 0, .tup l, h => by simp [D.pl] at h
  | n + 1, .tup l, h => by
    rw [D.pl, List.all_eq_true] at h ⊢
    exact fun d hd => pl_mono n d (h d hd)
  | _, .bl _, h => by simp [D.pl] at h
  | _, .lst _, h => by simp [D.pl] at h
  | _, .scr _, h => by simp [D.pl] at h
  | _, .dct _ _, h => by simp [D.pl] at h
theorem f_inT {x : D} {l : List D} {k k' : Nat} {neg : Bool} (h : x.pl 59 = true) (h' : ∀ y ∈ l, y.pl 59 = true) : fIn neg [⟨x, k⟩, ⟨.tup l, k'⟩] = .ok ⟨.bl (neg ^^ decide (x ∈ l)), 0⟩ := by
  have h1 := pl_mono 59 x h
  have h2 : (D.tup l).pl 60 = true := by rw [D.pl, List.all_eq_true]; exact h'
  have e : inB x (.tup l) = .ok (decide (x ∈ l)) := by
    unfold inB
    simp only [D.pl_okd _ _ h1, D.pl_okd _ _ h2, Bool.and_true, if_true]
    rw [any_pl h1 fun y hy => pl_mono 59 y (h' y hy)]
  unfold fIn
  simp only [e, R.ok_bind]
  rfl
theorem f_inL {x : D} {l : List D} {k k' : Nat} {neg : Bool} (h : x.pl 59 = true) (h' : ∀ y ∈ l, y.pl 59 = true) : fIn neg [⟨x, k⟩, ⟨.lst l, k'⟩] = .ok ⟨.bl (neg ^^ decide (x ∈ l)), 0⟩ := by
  have h1 := pl_mono 59 x h
  have h2 : (D.lst l).okd 60 = true := by rw [D.okd, List.all_eq_true]; exact fun y hy => D.pl_okd _ _ (h' y hy)
  have e : inB x (.lst l) = .ok (decide (x ∈ l)) := by
    unfold inB
    simp only [D.pl_okd _ _ h1, h2, Bool.and_true, if_true]
    rw [any_pl h1 fun y hy => pl_mono 59 y (h' y hy)]
  unfold fIn
  simp only [e, R.ok_bind]
  rfl
/-! numbers of things -/
theorem nL_inj {a b : List Nat} : nL a = nL b ↔ a = b := by
  constructor
  · intro h
    induction a generalizing b with
    | nil => cases b with
      | nil => rfl
      | cons _ _ => simp [nL] at h
    | cons x r ih => cases b with
      | nil => simp [nL] at h
      | cons y s =>
        simp only [nL, List.map_cons, List.cons.injEq, D.int.injEq] at h
        rw [ih h.2, show x = y by omega]
  · intro h; rw [h]
theorem mem_nL {i : Nat} {l : List Nat} : D.int (i : Int) ∈ nL l ↔ i ∈ l := by
  unfold nL
  rw [List.mem_map]
  constructor
  · rintro ⟨j, h, e⟩
    simp only [D.int.injEq] at e
    rw [← show j = i by omega]; exact h
  · intro h; exact ⟨i, h, rfl⟩
theorem nD_inj {a b : List Nat} : nD a = nD b ↔ a = b := by
  unfold nD
  rw [D.tup.injEq, nL_inj]
theorem nL_pl {a : List Nat} {n : Nat} : ∀ y ∈ nL a, y.pl n = true := fun y hy => by
  obtain ⟨i, _, rfl⟩ := List.mem_map.mp hy
  simp [D.pl]
theorem nD_pl {a : List Nat} {n : Nat} : (nD a).pl (n + 1) = true := by
  unfold nD
  rw [D.pl, List.all_eq_true]
  exact nL_pl
theorem f_inN {i : Nat} {l : List Nat} {k k' : Nat} {neg : Bool} : fIn neg [⟨.int (i : Int), k⟩, ⟨nD l, k'⟩] = .ok ⟨.bl (neg ^^ decide (i ∈ l)), 0⟩ := by
  have := f_inT (x := .int (i : Int)) (l := nL l) (k := k) (k' := k') (neg := neg) (by simp [D.pl]) nL_pl
  simp only [mem_nL] at this
  exact this
end Z

/-! Z: a name that is given a second name (`a = b`, b is read again): both are frozen. -/
namespace Z
open PySem PySem.Spec PyProof.Rows L2
def aFz (i : Nat) : AE := fun ρ => match ρ.get i with
  | some c => .ok (.v ⟨c.d, 0⟩, ρ.set i (some ⟨c.d, 0⟩))
  | none => .bad
@[simp] theorem aFz_s {i : Nat} {ρ : Env} : aFz i ρ = (match ρ.get i with | some c => .ok (.v ⟨c.d, 0⟩, ρ.set i (some ⟨c.d, 0⟩)) | none => .bad) := rfl
section
variable {X : Cx}
end
end Z

/-! ZP: what comes out, goal by goal. -/
namespace Z
open PySem PySem.Spec PyProof.Rows L2
section
variable {α β σ : Type} {x y : R α} {f : α → R β} {Q : α → Prop} {a : α}
@[simp] theorem Ret_bad : Ret (.bad : R α) Q ↔ False := ⟨(fun ⟨_, e, _⟩ => nomatch e), (fun h => h.elim)⟩
@[simp] theorem Ret_bind {Q : β → Prop} : Ret (x >>= f) Q ↔ Ret x fun a => Ret (f a) Q := by
  constructor
  · rintro ⟨b, e, h⟩
    obtain ⟨a, e1, e2⟩ := R.of_bind e
    exact ⟨a, e1, b, e2, h⟩
  · rintro ⟨a, rfl, b, e, h⟩
    exact ⟨b, e, h⟩
theorem Ret.eq (h : Ret x fun b => b = a) : x = .ok a := by
  obtain ⟨b, rfl, rfl⟩ := h
  rfl
theorem Ret.of (e : x = .ok a) (h : Q a) : Ret x Q := ⟨a, e, h⟩
theorem Ret.ex {P : α → Prop} (h : Ret x P) : ∃ a, x = .ok a ∧ P a := h
@[simp] theorem Ret_guard {c : Prop} [Decidable c] : Ret (if c then x else .bad) Q ↔ c ∧ Ret x Q := by
  by_cases h : c <;> simp [h]
end
/-! junk: slots of which nothing is said -/
def fillJ (js : List Nat) (j : Nat → Option Cell) : Nat → Env → Env
  | _, [] => []
  | i, c :: r => (if i ∈ js then j i else c) :: fillJ js j (i + 1) r
@[simp] theorem fillJ_nil {js : List Nat} {j : Nat → Option Cell} {i : Nat} : fillJ js j i [] = [] := rfl
@[simp] theorem fillJ_cons {js : List Nat} {j : Nat → Option Cell} {i : Nat} {c : Option Cell} {r : Env} : fillJ js j i (c :: r) = (if i ∈ js then j i else c) :: fillJ js j (i + 1) r := rfl
theorem fillJ_get {js : List Nat} : ∀ {ρ : Env} {i : Nat} {j : Nat → Option Cell}, (∀ k, j (i + k) = ρ.get k) → fillJ js j i ρ = ρ
  | [], _, _, _ => rfl
  | c :: r, i, j, h => by
    rw [fillJ_cons, fillJ_get (i := i + 1) fun k => by rw [show i + 1 + k = i + (k + 1) by omega, h]; rfl]
    have := h 0
    rw [Nat.add_zero] at this
    rw [this]
    split <;> rfl
theorem fillJ_self {js : List Nat} {ρ : Env} : fillJ js (fun i => ρ.get i) 0 ρ = ρ := fillJ_get fun k => by rw [Nat.zero_add]
/-! ### loops -/
section
variable {it : ItD} {g : MG} {body : MS} {L : List Nat} {ds : List D} {ρ : Env} {Q : Fl × Env → Prop} {α σ : Type}
/-- a loop: put writes the state into the slots, js are the slots of which nothing is said -/
theorem Ret_for (xs : List α) (toD : α → D) (js : List Nat) (put : σ → Env → Env) (I : List α → List α → σ → Prop) (s0 : σ) (hx : ds = xs.map toD) (h0 : ρ = put s0 ρ) (hI : I [] xs s0)
    (h : ∀ done x rest s j, xs = done ++ x :: rest → I done (x :: rest) s → Ret (step1 it g body L (toD x) (fillJ js j 0 (put s ρ))) fun y =>
      (y.1 = .next ∧ ∃ s', y.2 = fillJ js (fun i => y.2.get i) 0 (put s' ρ) ∧ I (done ++ [x]) rest s') ∨ (∃ c, y.1 = .ret c ∧ Q (.ret c, y.2)) ∨ (y.1 = .brk ∧ Q (.next, y.2)))
    (k : ∀ s j, I xs [] s → Q (.next, fillJ js j 0 (put s ρ))) : Ret (loopF it g body L ds ρ) Q := by
  subst hx
  have key : ∀ (rest done : List α) (s : σ) (j : Nat → Option Cell), xs = done ++ rest → I done rest s → Ret (loopF it g body L (rest.map toD) (fillJ js j 0 (put s ρ))) Q := by
    intro rest
    induction rest with
    | nil =>
      intro done s j e hi
      rw [List.append_nil] at e
      subst e
      exact ⟨_, rfl, k s j hi⟩
    | cons x rest ih =>
      intro done s j e hi
      obtain ⟨⟨fl, ρ'⟩, e1, h1⟩ := h done x rest s j e hi
      rw [List.map_cons]
      rcases h1 with ⟨rfl, s', e2, hi'⟩ | ⟨c, rfl, hq⟩ | ⟨rfl, hq⟩
      · dsimp only at e2
        rw [loop_next e1, e2]
        exact ih (done ++ [x]) s' _ (by rw [e, List.append_assoc]; rfl) hi'
      · exact ⟨_, loop_ret e1, hq⟩
      · exact ⟨_, loop_brk e1, hq⟩
  have := key xs [] s0 (fun i => ρ.get i) rfl hI
  rw [← h0, fillJ_self] at this
  exact this
/-- a loop over range(n) -/
theorem Ret_range (n : Nat) (js : List Nat) (put : σ → Env → Env) (I : Nat → σ → Prop) (s0 : σ) (hx : ds = (List.range n).map fun (i : Nat) => D.int (i : Int)) (h0 : ρ = put s0 ρ) (hI : I 0 s0)
    (h : ∀ (i : Nat) s j, i < n → I i s → Ret (step1 it g body L (.int (i : Int)) (fillJ js j 0 (put s ρ))) fun y =>
      (y.1 = .next ∧ ∃ s', y.2 = fillJ js (fun i => y.2.get i) 0 (put s' ρ) ∧ I (i + 1) s') ∨ (∃ c, y.1 = .ret c ∧ Q (.ret c, y.2)) ∨ (y.1 = .brk ∧ Q (.next, y.2)))
    (k : ∀ s j, I n s → Q (.next, fillJ js j 0 (put s ρ))) : Ret (loopF it g body L ds ρ) Q := by
  refine Ret_for (List.range n) (fun (i : Nat) => D.int (i : Int)) js put (fun done _ s => I done.length s) s0 hx h0 hI (fun done x rest s j e hi => ?_) fun s j hi => k s j (by simpa using hi)
  have hl := congrArg List.length e
  have hg := congrArg (fun l : List Nat => l[done.length]?) e
  simp at hl hg
  have hlt : done.length < n := by omega
  rw [List.getElem?_eq_getElem (by simpa using hlt)] at hg
  simp at hg
  have := h done.length s j hlt hi
  subst hg
  simpa using this
theorem Ret_while {t : MT} {body : MS} {fuel : Nat} (js : List Nat) (put : σ → Env → Env) (I : σ → Prop) (m : σ → Nat) (s0 : σ) (h0 : ρ = put s0 ρ) (hI : I s0) (hf : m s0 < fuel)
    (h : ∀ s j, I s → Ret (t (fillJ js j 0 (put s ρ))) fun y => (y.1 = false ∧ Q (.next, y.2)) ∨ (y.1 = true ∧ Ret (body L y.2) fun z =>
      ((z.1 = .next ∨ z.1 = .cont) ∧ ∃ s', z.2 = fillJ js (fun i => z.2.get i) 0 (put s' ρ) ∧ I s' ∧ m s' < m s) ∨ (∃ c, z.1 = .ret c ∧ Q (.ret c, z.2)) ∨ (z.1 = .brk ∧ Q (.next, z.2)))) : Ret (loopW t body L fuel ρ) Q := by
  have key : ∀ (fuel : Nat) (s : σ) (j : Nat → Option Cell), I s → m s < fuel → Ret (loopW t body L fuel (fillJ js j 0 (put s ρ))) Q := by
    intro fuel
    induction fuel with
    | zero => intro s j _ hm; omega
    | succ n ih =>
      intro s j hi hm
      obtain ⟨⟨b, ρ1⟩, e1, h1⟩ := h s j hi
      unfold loopW
      rw [e1]
      simp only [R.ok_bind]
      rcases h1 with ⟨hb, hq⟩ | ⟨hb, ⟨fl, ρ2⟩, e2, h2⟩
      · dsimp only at hb
        subst hb
        exact ⟨_, rfl, hq⟩
      · dsimp only at hb e2
        subst hb
        simp only [if_true]
        rw [e2]
        simp only [R.ok_bind]
        rcases h2 with ⟨hfl, s', e3, hi', hm'⟩ | ⟨c, rfl, hq⟩ | ⟨rfl, hq⟩
        · dsimp only at e3 hfl
          have := ih s' (fun i => ρ2.get i) hi' (by omega)
          rw [← e3] at this
          rcases hfl with rfl | rfl <;> exact this
        · exact ⟨_, rfl, hq⟩
        · exact ⟨_, rfl, hq⟩
  have := key fuel s0 (fun i => ρ.get i) hI hf
  rw [← h0, fillJ_self] at this
  exact this
end
/-! ### comprehensions -/
section
variable {it : ItD} {g g1 : MG} {tt tt1 : MT} {mi1 : MI} {me : AE} {vs vs1 : List Nat} {ds : List D} {ρ : Env} {Q : List D × Env → Prop} {α β σ : Type}
theorem Ret_comp (xs : List α) (toD : α → D) (f : α → D) (hx : ds = xs.map toD) (h : ∀ x ∈ xs, Ret (comp1 it g tt me vs (toD x) ρ) fun y => y = (some (f x), ρ)) (k : Q (xs.map f, ρ)) : Ret (loopC it g tt me vs ds ρ) Q := by
  subst hx
  exact ⟨_, comp_m toD f fun x hx => (h x hx).eq, k⟩
theorem Ret_compF (xs : List α) (toD : α → D) (p : α → Bool) (f : α → D) (hx : ds = xs.map toD) (h : ∀ x ∈ xs, Ret (comp1 it g tt me vs (toD x) ρ) fun y => y = (if p x then some (f x) else none, ρ)) (k : Q ((xs.filter p).map f, ρ)) : Ret (loopC it g tt me vs ds ρ) Q := by
  subst hx
  exact ⟨_, comp_f toD p f fun x hx => (h x hx).eq, k⟩
/-- a comprehension that changes a state -/
theorem Ret_compS (xs : List α) (toD : α → D) (toE : β → D) (put : σ → Env → Env) (I : List α → List α → σ → List β → Prop) (s0 : σ) (hx : ds = xs.map toD) (h0 : ρ = put s0 ρ) (hI : I [] xs s0 [])
    (h : ∀ done x rest s acc, xs = done ++ x :: rest → I done (x :: rest) s acc → Ret (comp1 it g tt me vs (toD x) (put s ρ)) fun y => ∃ s', y.2 = put s' ρ ∧ ((y.1 = none ∧ I (done ++ [x]) rest s' acc) ∨ ∃ b, y.1 = some (toE b) ∧ I (done ++ [x]) rest s' (acc ++ [b])))
    (k : ∀ s acc, I xs [] s acc → Q (acc.map toE, put s ρ)) : Ret (loopC it g tt me vs ds ρ) Q := by
  subst hx
  have key : ∀ (rest done : List α) (s : σ) (acc : List β), xs = done ++ rest → I done rest s acc → Ret (loopC it g tt me vs (rest.map toD) (put s ρ)) fun y => ∃ s' acc', y = (acc'.map toE, put s' ρ) ∧ I xs [] s' (acc ++ acc') := by
    intro rest
    induction rest with
    | nil =>
      intro done s acc e hi
      rw [List.append_nil] at e
      subst e
      exact ⟨_, rfl, s, [], rfl, by rw [List.append_nil]; exact hi⟩
    | cons x rest ih =>
      intro done s acc e hi
      obtain ⟨⟨o, ρ'⟩, e1, s', e2, h1⟩ := h done x rest s acc e hi
      dsimp only at e2 h1
      subst e2
      rw [List.map_cons, comp_next e1]
      rcases h1 with ⟨rfl, hi'⟩ | ⟨b, rfl, hi'⟩
      · obtain ⟨⟨out, ρ2⟩, e3, s2, acc2, e4, hi2⟩ := ih (done ++ [x]) s' acc (by rw [e, List.append_assoc]; rfl) hi'
        cases e4
        exact ⟨_, by rw [e3]; rfl, s2, acc2, rfl, hi2⟩
      · obtain ⟨⟨out, ρ2⟩, e3, s2, acc2, e4, hi2⟩ := ih (done ++ [x]) s' (acc ++ [b]) (by rw [e, List.append_assoc]; rfl) hi'
        cases e4
        exact ⟨_, by rw [e3]; rfl, s2, b :: acc2, rfl, by rw [List.append_assoc] at hi2; exact hi2⟩
  obtain ⟨y, e, s', acc', rfl, hi⟩ := key xs [] s0 [] rfl hI
  rw [← h0] at e
  exact ⟨_, e, k s' acc' (by simpa using hi)⟩
end
/-! ### operations -/
section
variable {Q : Cell → Prop} {α : Type} {k k' : Nat}
theorem atI_big {l : List α} {n : Nat} (h : ¬ n < l.length) : atI l (n : Int) = none := by
  unfold atI ixN
  simp [h]
@[simp] theorem Ret_ixM [Inhabited α] {xs : List α} {f : α → D} {i : Nat} : Ret (fIx [⟨.tup (xs.map f), k⟩, ⟨.int (i : Int), k'⟩]) Q ↔ i < xs.length ∧ Q ⟨f (xs.getD i default), 0⟩ := by
  by_cases h : i < xs.length
  · rw [ixT (d := f (xs.getD i default)) (by simp [List.getElem?_eq_getElem h])]
    simp [h]
  · have : fIx [⟨.tup (xs.map f), k⟩, ⟨.int (i : Int), k'⟩] = .bad := by
      show (match atI (xs.map f) (i : Int) with | some d => R.ok (Cell.fz d) | none => .bad) = _
      rw [atI_big (by simpa using h)]
    rw [this]
    simp [h]
@[simp] theorem Ret_ixML [Inhabited α] {xs : List α} {f : α → D} {i : Nat} : Ret (fIx [⟨.lst (xs.map f), 1⟩, ⟨.int (i : Int), k'⟩]) Q ↔ i < xs.length ∧ Q ⟨f (xs.getD i default), 0⟩ := by
  by_cases h : i < xs.length
  · rw [ixL (d := f (xs.getD i default)) (by omega) (by simp [List.getElem?_eq_getElem h])]
    simp [h]
  · have : fIx [⟨.lst (xs.map f), 1⟩, ⟨.int (i : Int), k'⟩] = .bad := by
      show (match atI (xs.map f) (i : Int) with | some d => R.ok (Cell.fz d) | none => .bad) = _
      rw [atI_big (by simpa using h)]
    rw [this]
    simp [h]
@[simp] theorem Ret_ixML0 [Inhabited α] {xs : List α} {f : α → D} {i : Nat} : Ret (fIx [⟨.lst (xs.map f), 0⟩, ⟨.int (i : Int), k'⟩]) Q ↔ i < xs.length ∧ Q ⟨f (xs.getD i default), 0⟩ := by
  have := Ret_ixML (Q := Q) (xs := xs) (f := f) (i := i) (k' := k')
  exact this
@[simp] theorem Ret_ixN {ps : List Nat} {i : Nat} : Ret (fIx [⟨nD ps, k⟩, ⟨.int (i : Int), k'⟩]) Q ↔ i < ps.length ∧ Q ⟨.int (ps.getD i 0 : Nat), 0⟩ := Ret_ixM
@[simp] theorem Ret_ixI {ps : List Int} {i : Nat} : Ret (fIx [⟨iD ps, k⟩, ⟨.int (i : Int), k'⟩]) Q ↔ i < ps.length ∧ Q ⟨.int (ps.getD i 0), 0⟩ := Ret_ixM
@[simp] theorem Ret_append {l : List D} {d : D} {Q : D × List D → Prop} : Ret (fAppend l [d]) Q ↔ l.length < 16777216 ∧ Q (.non, l ++ [d]) := by
  unfold fAppend
  simp
@[simp] theorem rgB_iff {n : Nat} : rgB 0 (n : Int) = true ↔ n < 4611686018427387904 := by
  unfold rgB
  rw [decide_eq_true_eq]
  omega
theorem Ret_draw {l : List D} {m : Int} {Q : Cell × List Cell → Prop} (h : DSl l) (h0 : 0 < m) (h1 : m < 4611686018427387904) (k : ∀ (n : Nat) (l' : List D), DSl l' → (n : Int) < m → Q (⟨.int (n : Int), 0⟩, [⟨.lst l', 1⟩, ⟨.int m, 0⟩])) : Ret (c_draw [⟨.lst l, 1⟩, ⟨.int m, 0⟩]) Q :=
  ⟨_, draw_s h h0 h1, k _ _ h.d (dN_lt h h0 h1)⟩
theorem Ret_drawN {l : List D} {m : Nat} {Q : Cell × List Cell → Prop} (h : DSl l) (h0 : 0 < m) (h1 : m < 4611686018427387904) (k : ∀ (n : Nat) (l' : List D), DSl l' → n < m → Q (⟨.int (n : Int), 0⟩, [⟨.lst l', 1⟩, ⟨.int (m : Int), 0⟩])) : Ret (c_draw [⟨.lst l, 1⟩, ⟨.int (m : Int), 0⟩]) Q :=
  Ret_draw h (by omega) (by omega) fun n l' h1 h2 => k n l' h1 (by omega)
end
section
variable {it : ItD} {g : MG} {body : MS} {L : List Nat} {ds : List D} {ρ : Env} {Q : Fl × Env → Prop} {α : Type}
/-- a loop that looks for the first that makes it return -/
theorem Ret_search (xs : List α) (toD : α → D) (js : List Nat) (f : α → Option Cell) (hx : ds = xs.map toD)
    (h : ∀ x j, x ∈ xs → Ret (step1 it g body L (toD x) (fillJ js j 0 ρ)) fun y => y.2 = fillJ js (fun i => y.2.get i) 0 ρ ∧ y.1 = (match f x with | none => Fl.next | some c => Fl.ret c))
    (k : ∀ j, Q (match xs.findSome? f with | none => Fl.next | some c => Fl.ret c, fillJ js j 0 ρ)) : Ret (loopF it g body L ds ρ) Q := by
  subst hx
  have key : ∀ (rest : List α) (j : Nat → Option Cell), (∀ x ∈ rest, x ∈ xs) → (∀ j, Q (match rest.findSome? f with | none => Fl.next | some c => Fl.ret c, fillJ js j 0 ρ)) → Ret (loopF it g body L (rest.map toD) (fillJ js j 0 ρ)) Q := by
    intro rest
    induction rest with
    | nil =>
      intro j _ hk
      exact ⟨_, rfl, hk j⟩
    | cons x rest ih =>
      intro j hm hk
      obtain ⟨⟨fl, ρ'⟩, e1, e2, e3⟩ := h x j (hm x (List.mem_cons_self ..))
      dsimp only at e2 e3
      rw [List.findSome?_cons] at hk
      rw [List.map_cons]
      cases hf : f x with
      | none =>
        rw [hf] at e3 hk
        subst e3
        rw [loop_next e1, e2]
        exact ih _ (fun y hy => hm y (List.mem_cons_of_mem _ hy)) hk
      | some c =>
        rw [hf] at e3 hk
        subst e3
        refine ⟨_, loop_ret e1, ?_⟩
        rw [e2]
        exact hk _
  have := key xs (fun i => ρ.get i) (fun _ h => h) k
  rw [fillJ_self] at this
  exact this
end
/-! the greatest, the least of numbers -/
def mxL : List Int → Int
  | [] => 0
  | x :: r => maxL x r
def mnL : List Int → Int
  | [] => 0
  | x :: r => minL x r
section
variable {Q : Cell → Prop} {k k' : Nat}
@[simp] theorem Ret_maxL {l : List Int} : Ret (fMax [⟨.lst (l.map D.int), 1⟩]) Q ↔ l ≠ [] ∧ Q ⟨.int (mxL l), 0⟩ := by
  cases l with
  | nil => 
    have : fMax [⟨.lst (([] : List Int).map D.int), 1⟩] = .bad := rfl
    rw [this]
    simp
  | cons x r =>
    have : fMax [⟨.lst ((x :: r).map D.int), 1⟩] = .ok ⟨.int (maxL x r), 0⟩ := by
      unfold fMax onInts
      simp only [asInts_map, if_true, R.ok_bind]
      rfl
    rw [this]
    simp [mxL]
@[simp] theorem Ret_maxL0 {l : List Int} : Ret (fMax [⟨.lst (l.map D.int), 0⟩]) Q ↔ l ≠ [] ∧ Q ⟨.int (mxL l), 0⟩ := Ret_maxL
@[simp] theorem Ret_minL {l : List Int} : Ret (fMin [⟨.lst (l.map D.int), 1⟩]) Q ↔ l ≠ [] ∧ Q ⟨.int (mnL l), 0⟩ := by
  cases l with
  | nil => 
    have : fMin [⟨.lst (([] : List Int).map D.int), 1⟩] = .bad := rfl
    rw [this]
    simp
  | cons x r =>
    have : fMin [⟨.lst ((x :: r).map D.int), 1⟩] = .ok ⟨.int (minL x r), 0⟩ := by
      unfold fMin onInts
      simp only [asInts_map, if_true, R.ok_bind]
      rfl
    rw [this]
    simp [mnL]
@[simp] theorem Ret_minL0 {l : List Int} : Ret (fMin [⟨.lst (l.map D.int), 0⟩]) Q ↔ l ≠ [] ∧ Q ⟨.int (mnL l), 0⟩ := Ret_minL
@[simp] theorem Ret_mul {i j : Int} : Ret (fMul [⟨.int i, k⟩, ⟨.int j, k'⟩]) Q ↔ cmul i j = true ∧ Q ⟨.int (i * j), 0⟩ := by
  have : fMul [⟨.int i, k⟩, ⟨.int j, k'⟩] = if cmul i j = true then .ok (Cell.fz (.int (i * j))) else .bad := rfl
  rw [this]
  simp
@[simp] theorem Ret_div {i j : Int} : Ret (fDiv [⟨.int i, k⟩, ⟨.int j, k'⟩]) Q ↔ (0 < j ∧ j < 4611686018427387904) ∧ Q ⟨.int (i / j), 0⟩ := by
  by_cases h : 0 < j ∧ j < 4611686018427387904
  · rw [p_div h]; simp [h]
  · have : fDiv [⟨.int i, k⟩, ⟨.int j, k'⟩] = .bad := by unfold fDiv fI2; simp [h]
    rw [this]; simp [h]
@[simp] theorem Ret_mod {i j : Int} : Ret (fMod [⟨.int i, k⟩, ⟨.int j, k'⟩]) Q ↔ 0 < j ∧ Q ⟨.int (i % j), 0⟩ := by
  by_cases h : 0 < j
  · rw [p_mod h]; simp [h]
  · have : fMod [⟨.int i, k⟩, ⟨.int j, k'⟩] = .bad := by unfold fMod fI2; simp [h]
    rw [this]; simp [h]
theorem cmul_of {i j : Int} (h : (-(2 ^ 64) < i ∧ i < 2 ^ 64) ∨ (-(2 ^ 64) < j ∧ j < 2 ^ 64)) : cmul i j = true := by
  unfold cmul
  simpa using h
@[simp] theorem Ret_addT {l m : List D} : Ret (fAdd [⟨.tup l, k⟩, ⟨.tup m, k'⟩]) Q ↔ l.length + m.length ≤ 16777216 ∧ Q ⟨.tup (l ++ m), 0⟩ := by
  have : fAdd [⟨.tup l, k⟩, ⟨.tup m, k'⟩] = if l.length + m.length ≤ 16777216 then .ok (Cell.fz (.tup (l ++ m))) else .bad := rfl
  rw [this]
  simp
@[simp] theorem Ret_ext {l m : List D} {Q : D × List D → Prop} : Ret (fExtend l [.lst m]) Q ↔ l.length + m.length ≤ 16777216 ∧ Q (.non, l ++ m) := by
  unfold fExtend
  simp
end
section
variable {it : ItD} {g : MG} {body : MS} {L : List Nat} {ds : List D} {ρ : Env} {Q : Fl × Env → Prop} {α β : Type}
/-- a loop that makes a list longer -/
theorem Ret_flat (B : Nat) (xs : List α) (toD : α → D) (js : List Nat) (put : List β → Env → Env) (f : α → List β) (acc0 : List β) (hx : ds = xs.map toD) (h0 : ρ = put acc0 ρ) (hB : acc0.length + (xs.flatMap f).length ≤ B)
    (h : ∀ x acc j, x ∈ xs → acc.length + (f x).length ≤ B → Ret (step1 it g body L (toD x) (fillJ js j 0 (put acc ρ))) fun y => y.1 = .next ∧ y.2 = fillJ js (fun i => y.2.get i) 0 (put (acc ++ f x) ρ))
    (k : ∀ j, Q (.next, fillJ js j 0 (put (acc0 ++ xs.flatMap f) ρ))) : Ret (loopF it g body L ds ρ) Q := by
  refine Ret_for xs toD js put (fun done rest acc => acc = acc0 ++ done.flatMap f ∧ acc.length + (rest.flatMap f).length ≤ B) acc0 hx h0 ⟨by simp, hB⟩ (fun done x rest s j e hi => ?_) fun s j hi => by rw [hi.1]; exact k j
  obtain ⟨h1, h2⟩ := hi
  rw [List.flatMap_cons, List.length_append] at h2
  refine (h x s j (by rw [e]; simp) (by omega)).mono fun y hy => .inl ⟨hy.1, _, hy.2, by rw [h1]; simp, by rw [List.length_append]; omega⟩
end
section
variable {k k' : Nat}
@[simp] theorem notN_tup {l : List D} : fNotN [⟨.tup l, k⟩, ⟨.non, k'⟩] = .ok ⟨.bl true, 0⟩ := rfl
@[simp] theorem isN_tup {l : List D} : fIsN [⟨.tup l, k⟩, ⟨.non, k'⟩] = .ok ⟨.bl false, 0⟩ := rfl
@[simp] theorem notN_nD {l : List Nat} : fNotN [⟨nD l, k⟩, ⟨.non, k'⟩] = .ok ⟨.bl true, 0⟩ := rfl
@[simp] theorem isN_nD {l : List Nat} : fIsN [⟨nD l, k⟩, ⟨.non, k'⟩] = .ok ⟨.bl false, 0⟩ := rfl
@[simp] theorem notN_int {i : Int} : fNotN [⟨.int i, k⟩, ⟨.non, k'⟩] = .ok ⟨.bl true, 0⟩ := rfl
@[simp] theorem isN_int {i : Int} : fIsN [⟨.int i, k⟩, ⟨.non, k'⟩] = .ok ⟨.bl false, 0⟩ := rfl
@[simp] theorem notN_non : fNotN [⟨.non, k⟩, ⟨.non, k'⟩] = .ok ⟨.bl false, 0⟩ := rfl
@[simp] theorem isN_non : fIsN [⟨.non, k⟩, ⟨.non, k'⟩] = .ok ⟨.bl true, 0⟩ := rfl
end
end Z

/-! ZQ: tuples turned about, tuples compared, lists of new lists. -/
namespace Z
open PySem PySem.Spec PyProof.Rows L2 HT
/-! ### x[::-1] -/
section
variable {prog : Program} {w : World} {A : Around} {E : Value → Shared → Prop} {s : Shared}
end
section
variable {X : Cx}
def mRev (m : AE) : AE := fun ρ => do
  let (s, ρ1) ← m ρ
  match s.cell ρ1 with
  | some ⟨.tup l, _⟩ => R.ok (.v (Cell.fz (.tup l.reverse)), ρ1)
  | some ⟨.lst l, k⟩ => if k ≤ 1 then R.ok (.v ⟨.lst l.reverse, 1⟩, ρ1) else R.bad
  | _ => R.bad
@[simp] theorem mRev_ap {m : AE} {ρ : Env} : mRev m ρ = (do
  let (s, ρ1) ← m ρ
  match s.cell ρ1 with
  | some ⟨.tup l, _⟩ => R.ok (.v (Cell.fz (.tup l.reverse)), ρ1)
  | some ⟨.lst l, k⟩ => if k ≤ 1 then R.ok (.v ⟨.lst l.reverse, 1⟩, ρ1) else R.bad
  | _ => R.bad) := rfl
/-! ### tuples of ints compared -/
def lexB : List Int → List Int → Bool
  | [], _ => true
  | _ :: _, [] => false
  | x :: xs, y :: ys => if x = y then lexB xs ys else decide (x ≤ y)
theorem lexAt_shift {e r : Nat → Bool} {z : Bool} : ∀ {k i : Nat}, Ob.lexAt e r z (i + 1) k = Ob.lexAt (fun j => e (j + 1)) (fun j => r (j + 1)) z i k
  | 0, i => rfl
  | k + 1, i => by rw [Ob.lexAt_succ, Ob.lexAt_succ, lexAt_shift (k := k) (i := i + 1)]
def fLeT : List Cell → R Cell
  | [⟨.tup l, _⟩, ⟨.tup m, _⟩] => match asInts l, asInts m with
    | some ns, some ms => .ok (Cell.fz (.bl (lexB ns ms)))
    | _, _ => .bad
  | _ => .bad
def fLeA : List Cell → R Cell
  | [⟨.tup l, k⟩, ⟨.tup m, k'⟩] => fLeT [⟨.tup l, k⟩, ⟨.tup m, k'⟩]
  | cs => fLe cs
theorem u0 {k : Nat} {A : Around} (r : RoomG k A) : A.units < cLine := by have := r.r.un; omega
@[simp] theorem leA_int {i j : Int} {k k' : Nat} : fLeA [⟨.int i, k⟩, ⟨.int j, k'⟩] = .ok ⟨.bl (decide (i ≤ j)), 0⟩ := rfl
@[simp] theorem leA_tup {ns ms : List Int} {k k' : Nat} : fLeA [⟨.tup (ns.map D.int), k⟩, ⟨.tup (ms.map D.int), k'⟩] = .ok ⟨.bl (lexB ns ms), 0⟩ := by
  unfold fLeA fLeT
  simp only [asInts_map]
  rfl
end
end Z

/-! ZR: [[..] for ..], to be changed. -/
namespace Z
open PySem PySem.Spec PyProof.Rows L2
section
variable {X : Cx}
def freshL : Src → Option (List D)
  | .v ⟨.lst l, 1⟩ => some l
  | _ => none
def loopO (it : ItD) (g : MG) (tt : MT) (me : AE) (vs : List Nat) : List D → Env → R (List D × Env)
  | [], ρ => .ok ([], ρ)
  | d :: r, ρ => do
    let ρa ← g d [] ρ
    let (b, ρb) ← tt ρa
    if b then do
      let (s, ρc) ← me ρb
      if (freshL s).isSome && chkOk it (wipeE ρc vs) then do
        let (acc, ρe) ← loopO it g tt me vs r (wipeE ρc vs)
        R.ok (.lst ((freshL s).getD []) :: acc, ρe)
      else R.bad
    else if chkOk it (wipeE ρb vs) then loopO it g tt me vs r (wipeE ρb vs) else R.bad
def mCompO (mi : MI) (g : MG) (tt : MT) (me : AE) (vs : List Nat) : AE := fun ρ => do
  let (it, ρ1) ← mi ρ
  if ownOk ρ1 vs && decide (it.items.length ≤ 16777216) && chkOk it (wipeE ρ1 vs) then do
    let (acc, ρ2) ← loopO it g tt me vs it.items (wipeE ρ1 vs)
    R.ok (.v ⟨.lst acc, 2⟩, restore ρ2 ρ1 vs)
  else R.bad
@[simp] theorem mCompO_ap {mi : MI} {g : MG} {tt : MT} {me : AE} {vs : List Nat} {ρ : Env} : mCompO mi g tt me vs ρ = (do
  let (it, ρ1) ← mi ρ
  if ownOk ρ1 vs && decide (it.items.length ≤ 16777216) && chkOk it (wipeE ρ1 vs) then do
    let (acc, ρ2) ← loopO it g tt me vs it.items (wipeE ρ1 vs)
    R.ok (.v ⟨.lst acc, 2⟩, restore ρ2 ρ1 vs)
  else R.bad) := rfl
end
end Z

/-! ZT: the empty dict; dicts at values. -/
namespace Z
open PySem PySem.Spec PyProof.Rows L2
def mDct0 : AE := fun ρ => R.ok (.v ⟨.dct [] [], 1⟩, ρ)
@[simp] theorem mDct0_ap {ρ : Env} : mDct0 ρ = R.ok (.v ⟨.dct [] [], 1⟩, ρ) := rfl
/-! ### keys -/
theorem tk_nD {ks : List Nat} : (nD ks).tk = true := by
  unfold nD D.tk
  rw [List.all_eq_true]
  intro d hd
  obtain ⟨x, _, rfl⟩ := List.mem_map.mp hd
  rfl
/-- reading -/
theorem ixDt {ks ds : List D} {q d : D} {k k' : Nat} (h1 : q.tk = true) (h2 : ks.all D.tk = true) (h3 : dGet ks ds q = some d) : fIx [⟨.dct ks ds, k⟩, ⟨q, k'⟩] = .ok ⟨d, 0⟩ := by
  show (if q.tk then fIxU [⟨.dct ks ds, k⟩, ⟨q, k'⟩] else _) = _
  rw [if_pos h1]
  unfold fIxU
  simp only [h1, h2, h3, Bool.and_self, if_true]
  rfl
theorem inDt {ks ds : List D} {q : D} {k k' : Nat} {neg : Bool} (h1 : q.tk = true) (h2 : ks.all D.tk = true) : fIn neg [⟨q, k'⟩, ⟨.dct ks ds, k⟩] = .ok ⟨.bl (neg ^^ decide (q ∈ ks)), 0⟩ := by
  have e : inB q (.dct ks ds) = .ok (decide (q ∈ ks)) := by
    unfold inB
    simp only [h1, h2, Bool.and_self, Bool.or_true, if_true]
  unfold fIn
  simp only [e]
  rfl
end Z

/-! ZU: `is True`, `is False`. -/
namespace Z
open PySem PySem.Spec PyProof.Rows L2
def isBlD (b : Bool) : D → Bool
  | .bl a => a == b
  | _ => false
def fIsB : List Cell → R Cell
  | [c, ⟨.bl b, _⟩] => .ok (Cell.fz (.bl (isBlD b c.d)))
  | _ => .bad
def fNotB : List Cell → R Cell
  | [c, ⟨.bl b, _⟩] => .ok (Cell.fz (.bl (!isBlD b c.d)))
  | _ => .bad
section
variable {X : Cx}
end
@[simp] theorem isB_bl {a b : Bool} {k k' : Nat} : fIsB [⟨.bl a, k⟩, ⟨.bl b, k'⟩] = .ok ⟨.bl (a == b), 0⟩ := rfl
@[simp] theorem notB_bl {a b : Bool} {k k' : Nat} : fNotB [⟨.bl a, k⟩, ⟨.bl b, k'⟩] = .ok ⟨.bl (!(a == b)), 0⟩ := rfl
end Z

/-! ZV: list.insert. -/
namespace Z
open PySem PySem.Spec PyProof.Rows L2
section
variable {X : Cx}
end
end Z

/-! ZW: sorted(set(list of ints)). -/
namespace Z
open PySem PySem.Spec PyProof.Rows L2
section
variable {P : Program} {w : World} {A : Around} {E : Value → Shared → Prop} {s : Shared}
/-- a set without members -/
abbrev noSet (w : World) : Obj := { cls := .type "set", dict := none, data := .set #[] 0 (.fresh 0 0 (!w.params.followText "set-order")) }
/-- what filling the set at S with the ints ns leaves -/
def Filled (w : World) (s : Shared) (S : Addr) (ns : List Int) (s' : Shared) : Prop :=
  ∃ (h' : Heap) (tk c : Nat), s' = { s with heap := h', toks := tk } ∧ SetR w h' S (fun j => decide (j ∈ ns)) c ∧ c ≤ ns.length ∧ ∀ b o, b ≠ S → s.heap.get? b = some o → h'.get? b = some o
/-- the new set takes the members of a list -/
theorem fill_list {S l : Addr} {items : Array Value} {ns : List Int} (hh : A.handled = none) (hS : s.heap.get? S = some (noSet w)) (hl : s.heap.IsList l items) (hi : IntsAre items.toList ns) (hb : ns.length + 1 < scanBound) :
    wpAny (model P w) A (Builtin.«set.__init__» ⟨[.ref S, .ref l], []⟩) (fun fl s' => fl = PySem.Fin.done (Flow.ret Value.none) ∧ Filled w s S ns s') E s := by
  have hn : items.size = ns.length := by rw [← Array.length_toList]; exact IntsAre.length hi
  have hl0 := hl
  obtain ⟨⟨cl, di, da, sl⟩, e, e1, m, e2⟩ := hl0
  dsimp only at e1 e2
  subst e1
  subst e2
  have h1 := F.sub_list_set
  have h2 := F.sub_list_frozenset
  have h3 : (Value.type "list" == Value.type "dict") = false := by decide
  have hlS : l ≠ S := fun z => by
    rw [z, hS] at e
    have q := congrArg Obj.cls (Option.some.inj e)
    exact absurd (show Value.type "set" = Value.type "list" from q) (by decide)
  have lt1 := Heap.lt_size hS
  have lt2 := Heap.lt_size e
  unfold Builtin.«set.__init__» Builtin.Frozenset.updateFrom noKeywords
  generalize hP : pyIter = PI
  wp_walk
  subst hP
  refine wpAny_pyIter_list hl (wpAny_bind (wpAny_runValue ?_))
  have hf : S ∉ [s.heap.objs.size, l] := fun z => by
    rcases List.mem_cons.mp z with z | z
    · exact absurd z (Nat.ne_of_lt lt1)
    · exact hlS (List.mem_singleton.mp z).symm
  refine set_update_ints ((Walks.list (by simp [hh]) _ l (Nat.ne_of_lt lt2) items).toS) S hf ns hn hb (fun i v hv => ?_) (items.size - 0) 0 _ (by omega) (Nat.zero_le _) ⟨⟨_, Heap.get?_push_size _ rfl, rfl, rfl⟩, hl.push _⟩ ⟨0, Nat.le_refl 0, setR_new_at (Heap.get?_push_of_some _ hS)⟩ fun s' c hm hc hR => ?_
  · obtain ⟨t, ev⟩ := PyProof.Rows.IntsAre.int_at hi i v (by rw [Array.getElem?_toList]; exact hv)
    have hlt : i < ns.length := by rw [← hn]; exact (Array.getElem?_eq_some_iff.mp hv).1
    exact ⟨ns[i], t, List.getElem?_eq_getElem hlt, by rw [ev, List.getD_eq_getElem?_getD, List.getElem?_eq_getElem hlt]; rfl⟩
  · obtain ⟨h', g, d, tk, os⟩ := s'
    have q1 : g = s.gens := hm.gens
    have q2 : d = s.drawn := hm.drawn
    have q3 : os = s.os := hm.os
    subst q1
    subst q2
    subst q3
    refine wpAny_pure ?_
    show wpAny _ _ (ret Value.none) _ _ _
    refine wpAny_pure ⟨rfl, h', tk, c, rfl, hR, by rw [← hn]; exact hc, fun b o hbS eb => ?_⟩
    have lt3 := Heap.lt_size eb
    refine hm.heap b o (fun z => ?_) (Heap.get?_push_of_some _ eb)
    rcases List.mem_cons.mp z with z | z
    · exact hbS z
    · exact absurd (List.mem_singleton.mp z) (Nat.ne_of_lt lt3)
/-- set(list of ints) -/
theorem set_list {l : Addr} {items : Array Value} {ns : List Int} {Q : Value → Shared → Prop} (hh : A.handled = none) (hl : s.heap.IsList l items) (hi : IntsAre items.toList ns) (hb : ns.length + 1 < scanBound)
    (fin : ∀ (g : Heap) (t n : Nat), SetR w g s.heap.objs.size (fun z => decide (z ∈ ns)) n → n ≤ ns.length → (∀ a u, s.heap.get? a = some u → g.get? a = some u) → Q (.ref s.heap.objs.size) { s with heap := g, toks := t }) : wpAny (model P w) A (call (.type "set") [.ref l]) Q E s := by
  obtain ⟨_, _, _⟩ := F.called_set.mro
  have z1 := F.called_set.made
  have z2 := F.called_set.sub
  have z3 := F.called_set.notType
  have z4 := F.called_set.canCreate
  have z5 := F.typeCall_set_1 (.ref l)
  have hS : (s.heap.push (noSet w)).get? s.heap.objs.size = some (noSet w) := Heap.get?_push_size _ rfl
  refine wpAny_call (codeAny_of_tree (show wpAny _ _ (callAny (.type "set") _) _ _ _ from wpAny_pure ⟨Code.quiet_builtin _ (by decide +kernel), codeAny_builtin F.entry_type_call ?_⟩))
  rw [Around.under_plain (weight_type_call_type "set" [.ref l] []) rfl]
  repeat any_goals first | assumption | wp_step
  refine codeAny_mono (code_set_led1 (.ref l) (E := E) (Q₁ := fun o s1 => o = .ref s.heap.objs.size ∧ s1 = { s with heap := s.heap.push (noSet w) }) ⟨rfl, rfl⟩) fun r s1 hr => ?_
  match r, hr with
  | .error _, hr => exact hr
  | .ok (.ret o), ⟨e1, e2⟩ =>
    subst e1
    subst e2
    have z6 := F.called_set.init.lookup
    have z7 := F.called_set.init.bind (.ref s.heap.objs.size)
    repeat any_goals first | assumption | wp_step
    refine codeAny_mono (codeAny_call_builtin (R := wants (fun r s2 => r = .none ∧ Filled w { s with heap := s.heap.push (noSet w) } s.heap.objs.size ns s2) E) F.called_set.init.plain F.entry_set_init (check_set_init_1 ⟨_, hS, rfl⟩ ?_)) fun r s2 hr => ?_
    · exact wpAny_mono (fill_list (by simp [hh]) hS (hl.push _) hi hb) (fun fl s' ⟨e1, e2⟩ => by rw [e1]; exact ⟨rfl, e2⟩) fun _ _ q => q
    · match r, hr with
      | .error _, hr => exact hr
      | .ok (.ret r), ⟨e1, h', tk, c, e2, hR, hc, hk⟩ =>
        subst e1
        subst e2
        repeat any_goals first | assumption | wp_step
        exact fin _ _ _ hR hc fun b o e => hk b o (Nat.ne_of_lt (Heap.lt_size e)) (Heap.get?_push_of_some _ e)
end
/-! ### as rules -/
def rSetL (X : Cx) : List V → Hp → VK → Prop := fun vs H Q => ∃ (a : Addr) (ns : List Int), vs = [.ref a] ∧ SqL X.K H a (ns.map V.int) ∧ ns.length < 64 ∧
  ∀ (p : Addr) (S : Int → Bool) (n : Nat), H p = none → (∀ k, S k = true ↔ k ∈ ns) → n < 64 → Q (.ref p) (upd H p (SetO X.w p S n))
section
variable {X : Cx}
/-- the members, each once -/
def dd : List Int → List Int
  | [] => []
  | a :: l => if a ∈ l then dd l else a :: dd l
end
end Z

/-! ZX: sorted of a dict whose keys are integers. -/
namespace Z
open PySem PySem.Spec PyProof.Rows L2
end Z

/-! ZY: max, min and sorted of a tuple of integers. -/
namespace Z
open PySem PySem.Spec PyProof.Rows L2
section
variable {P : Program} {w : World} {A : Around} {E : Value → Shared → Prop} {s : Shared}
end
section
variable {X : Cx}
end
section
variable {X : Cx}
end
end Z

/-! ZZ: the calls of ZY with named relations (a printed term wants them). -/
namespace Z
open PySem PySem.Spec PyProof.Rows L2
section
variable {X : Cx}
end
end Z

/-! Y1: < and >= of tuples of integers. -/
namespace Z
open PySem PySem.Spec PyProof.Rows L2
section
variable {X : Cx}
theorem lexGe_at : ∀ (ns ms : List Int), Ob.lexAt (fun j => decide (ns.getD j 0 = ms.getD j 0)) (fun j => decide (ms.getD j 0 ≤ ns.getD j 0)) (decide (ns.length ≥ ms.length)) 0 (min ns.length ms.length) = lexB ms ns
  | [], [] => by simp [lexB, Ob.lexAt_zero]
  | [], _ :: _ => by simp [lexB, Ob.lexAt_zero]
  | _ :: _, [] => by simp [lexB, Ob.lexAt_zero]
  | x :: xs, y :: ys => by
    have ih := lexGe_at xs ys
    rw [List.length_cons, List.length_cons, Nat.add_min_add_right, Ob.lexAt_succ, lexAt_shift]
    simp only [List.getD_cons_zero, List.getD_cons_succ, ge_iff_le, Nat.add_le_add_iff_right, decide_eq_true_eq]
    simp only [ge_iff_le] at ih
    rw [ih, lexB]
    by_cases e : x = y
    · rw [if_pos e, if_pos e.symm]
    · rw [if_neg e, if_neg fun z => e z.symm]
theorem lexLt_at : ∀ (ns ms : List Int), Ob.lexAt (fun j => decide (ns.getD j 0 = ms.getD j 0)) (fun j => decide (ns.getD j 0 < ms.getD j 0)) (decide (ns.length < ms.length)) 0 (min ns.length ms.length) = !lexB ms ns
  | [], [] => by simp [lexB, Ob.lexAt_zero]
  | [], _ :: _ => by simp [lexB, Ob.lexAt_zero]
  | _ :: _, [] => by simp [lexB, Ob.lexAt_zero]
  | x :: xs, y :: ys => by
    have ih := lexLt_at xs ys
    rw [List.length_cons, List.length_cons, Nat.add_min_add_right, Ob.lexAt_succ, lexAt_shift]
    simp only [List.getD_cons_zero, List.getD_cons_succ, Nat.add_lt_add_iff_right, decide_eq_true_eq]
    rw [ih, lexB]
    by_cases e : x = y
    · rw [if_pos e, if_pos e.symm]
    · rw [if_neg e, if_neg fun z => e z.symm, ← decide_not, decide_eq_decide]
      omega
def rGeT (K : PySem.W.Frag) : R2 := fun x y H Q => ∃ (a b : Addr) (ns ms : List Int), x = .ref a ∧ y = .ref b ∧ SqT K H a (ns.map V.int) ∧ SqT K H b (ms.map V.int) ∧ Q (.bl (lexB ms ns)) H
def rLtT (K : PySem.W.Frag) : R2 := fun x y H Q => ∃ (a b : Addr) (ns ms : List Int), x = .ref a ∧ y = .ref b ∧ SqT K H a (ns.map V.int) ∧ SqT K H b (ms.map V.int) ∧ Q (.bl (!lexB ms ns)) H
theorem eqAtI {A : Around} {s : Shared} {i j : Int} {t u : Tok} : SeqAt.EqAt A s (.int i t) (.int j u) (decide (i = j)) := by
  have z : (i == j) = decide (i = j) := by
    by_cases q : i = j
    · rw [decide_eq_true q]; exact beq_iff_eq.mpr q
    · rw [decide_eq_false q]; exact beq_eq_false_iff_ne.mpr q
  rw [← z]
  exact SeqAt.EqAt.int_int _ _ _ _
theorem oq_geT (hu : X.A.units < cLine) : OpR X (compareOp .GtE) (rGeT X.K) := by
  intro pins s σ H x y v u Q I rx ry h
  obtain ⟨a, b, ns, ms, rfl, rfl, ha, hb, q⟩ := h
  cases rx
  cases ry
  obtain ⟨its, r1, p1, _⟩ := I.tuple ha
  obtain ⟨its2, r2, p2, _⟩ := I.tuple hb
  have i1 : IntsAre its ns := Vals.ints r1
  have i2 : IntsAre its2 ms := Vals.ints r2
  have e1 : its.toArray.size = ns.length := by rw [List.size_toArray]; exact i1.length
  have e2 : its2.toArray.size = ms.length := by rw [List.size_toArray]; exact i2.length
  have at1 : ∀ j (h1 : j < its.toArray.size), ∃ t, its.toArray[j] = .int (ns.getD j 0) t := fun j h1 => PyProof.Rows.IntsAre.int_at i1 _ _ (by simp at h1; simp [h1])
  have at2 : ∀ j (h1 : j < its2.toArray.size), ∃ t, its2.toArray[j] = .int (ms.getD j 0) t := fun j h1 => PyProof.Rows.IntsAre.int_at i2 _ _ (by simp at h1; simp [h1])
  have R := Ob.RcOp.tuples_ge (A := X.A) (s := s) (e := fun j => decide (ns.getD j 0 = ms.getD j 0)) (r := fun j => decide (ms.getD j 0 ≤ ns.getD j 0)) p1 p2 hu (fun j h1 h2 => by
    obtain ⟨t, et⟩ := at1 j h1
    obtain ⟨t', et'⟩ := at2 j h2
    rw [et, et']
    exact eqAtI) (fun j h1 h2 _ => by
    obtain ⟨t, et⟩ := at1 j h1
    obtain ⟨t', et'⟩ := at2 j h2
    rw [et, et']
    exact Ob.RcOp.ge_int _ _ _ _)
  rw [e1, e2, lexGe_at] at R
  have z : wpAny (model X.prog X.w) X.A (compareOp .GtE (.ref a) (.ref b)) (EP X pins σ Q) X.xe s := R X.prog X.w X.xe (EP X pins σ Q) ⟨.bl _, H, I, rfl, q⟩
  exact z
theorem oq_ltT (hu : X.A.units < cLine) : OpR X (compareOp .Lt) (rLtT X.K) := by
  intro pins s σ H x y v u Q I rx ry h
  obtain ⟨a, b, ns, ms, rfl, rfl, ha, hb, q⟩ := h
  cases rx
  cases ry
  obtain ⟨its, r1, p1, _⟩ := I.tuple ha
  obtain ⟨its2, r2, p2, _⟩ := I.tuple hb
  have i1 : IntsAre its ns := Vals.ints r1
  have i2 : IntsAre its2 ms := Vals.ints r2
  have e1 : its.toArray.size = ns.length := by rw [List.size_toArray]; exact i1.length
  have e2 : its2.toArray.size = ms.length := by rw [List.size_toArray]; exact i2.length
  have at1 : ∀ j (h1 : j < its.toArray.size), ∃ t, its.toArray[j] = .int (ns.getD j 0) t := fun j h1 => PyProof.Rows.IntsAre.int_at i1 _ _ (by simp at h1; simp [h1])
  have at2 : ∀ j (h1 : j < its2.toArray.size), ∃ t, its2.toArray[j] = .int (ms.getD j 0) t := fun j h1 => PyProof.Rows.IntsAre.int_at i2 _ _ (by simp at h1; simp [h1])
  have R := Ob.RcOp.tuples_lt (A := X.A) (s := s) (e := fun j => decide (ns.getD j 0 = ms.getD j 0)) (r := fun j => decide (ns.getD j 0 < ms.getD j 0)) p1 p2 hu (fun j h1 h2 => by
    obtain ⟨t, et⟩ := at1 j h1
    obtain ⟨t', et'⟩ := at2 j h2
    rw [et, et']
    exact eqAtI) (fun j h1 h2 _ => by
    obtain ⟨t, et⟩ := at1 j h1
    obtain ⟨t', et'⟩ := at2 j h2
    rw [et, et']
    exact Ob.RcOp.lt_int _ _ _ _)
  rw [e1, e2, lexLt_at] at R
  have z : wpAny (model X.prog X.w) X.A (compareOp .Lt (.ref a) (.ref b)) (EP X pins σ Q) X.xe s := R X.prog X.w X.xe (EP X pins σ Q) ⟨.bl _, H, I, rfl, q⟩
  exact z
/-! as pure functions -/
def fTT (f : List Int → List Int → Bool) : List Cell → R Cell
  | [⟨.tup l, _⟩, ⟨.tup m, _⟩] => match asInts l, asInts m with
    | some ns, some ms => .ok (Cell.fz (.bl (f ns ms)))
    | _, _ => .bad
  | _ => .bad
abbrev fGeT := fTT fun ns ms => lexB ms ns
abbrev fLtT := fTT fun ns ms => !lexB ms ns
theorem s_TT {f : List Int → List Int → Bool} {r : R2} (hr : ∀ (a b : Addr) (ns ms : List Int) (H : Hp) (Q : VK), SqT X.K H a (ns.map V.int) → SqT X.K H b (ms.map V.int) → Q (.bl (f ns ms)) H → r (.ref a) (.ref b) H Q) : CallS X (r2L r) (fTT f) := s_scalar fun K H w cs vs c Q hK ow e => by
  subst hK
  unfold fTT at e
  split at e
  · split at e
    · rename_i ns ms h1 h2
      cases e
      obtain ⟨v, u, o, q, rfl, o1, o2⟩ := ow.two
      obtain ⟨a, xs, rfl, ta, fa⟩ := ow_tup o1
      obtain ⟨b, ys, rfl, tb, fb⟩ := ow_tup o2
      rw [asInts_eq h1] at fa
      rw [asInts_eq h2] at fb
      cases fa.ints
      cases fb.ints
      exact ⟨_, .bl (f ns ms), rfl, by simp [isSc], fun q => hr a b ns ms _ _ ta.sq tb.sq q⟩
    · cases e
  · cases e
theorem s_geT : CallS X (r2L (rGeT X.K)) fGeT := s_TT fun a b ns ms H Q h1 h2 q => ⟨a, b, ns, ms, rfl, rfl, h1, h2, q⟩
theorem s_ltT : CallS X (r2L (rLtT X.K)) fLtT := s_TT fun a b ns ms H Q h1 h2 q => ⟨a, b, ns, ms, rfl, rfl, h1, h2, q⟩
theorem bl_TT {f : List Int → List Int → Bool} : ∀ cs c, fTT f cs = .ok c → ∃ b, c = Cell.fz (.bl b) := by
  intro cs c h
  unfold fTT at h
  split at h
  · split at h
    · cases h; exact ⟨_, rfl⟩
    · cases h
  · cases h
@[simp] theorem geT_tup {ns ms : List Int} {k k' : Nat} : fGeT [⟨.tup (ns.map D.int), k⟩, ⟨.tup (ms.map D.int), k'⟩] = .ok ⟨.bl (lexB ms ns), 0⟩ := by
  unfold fGeT fTT
  simp only [asInts_map]
  rfl
@[simp] theorem ltT_tup {ns ms : List Int} {k k' : Nat} : fLtT [⟨.tup (ns.map D.int), k⟩, ⟨.tup (ms.map D.int), k'⟩] = .ok ⟨.bl (!lexB ms ns), 0⟩ := by
  unfold fLtT fTT
  simp only [asInts_map]
  rfl
end
end Z

/-! Y2: dict comprehensions whose keys are tuples of numbers (dcU_core follows a worked proof of the library's own comprehensions). -/
namespace Z
open PySem PySem.Spec PyProof.Rows L2
section
variable {X : Cx}
theorem u_dictSet {pins : List (Addr × Obj)} {σ : L2.St} {H : Hp} {s : Shared} {a b : Addr} {xs : List (D × Addr × Value)} {k : D} {E : Value → Shared → Prop} {r : Value} {Q : Unit → Shared → Prop} (hu : X.A.units + 65 < cLine) (I : Inv X pins σ H s) (mu : Mut (H a)) (g : UAt0 X H a xs) (hk : k.tk = true) (kv : NkV X H k (.ref b)) (hl : xs.length < sizeLine)
    (h : ∀ s' ob, ExD ob a (uPut xs k b r) → Inv X pins σ (upd H a (.ext fun h => h.get? a = some ob)) s' → Q () s') : wpAny (model X.prog X.w) X.A (dictSet a (.ref b) r) Q E s := by
  obtain ⟨h1, h2, h3, h4⟩ := g.dict I
  have hz : (uK xs).length ≤ sizeLine := by unfold uK; rw [List.length_map]; exact h2
  refine wpAny_dictSet_heap (knd := nestedKind X.prog X.w) (hsz := hz) (show X.A.units + 8 < cLine by omega) ⟨kv pins σ s _ I rfl, D.nk_depth (D.tk_kk hk)⟩ h4 fun h' dd' hs => ?_
  rw [uPut_uK hk h3] at dd'
  obtain ⟨q, es, ep, hq, d2, d3, d4, _, d5⟩ := dd'
  have hlen := uPut_len (xs := xs) (k := k) (b := b) (u := r)
  refine h _ q ⟨h1, d2, by omega, uPut_ne, uPut_tk hk h3, ?_, es, ep, d3, fun W => ?_⟩ (d_write I mu hs ⟨q, hq⟩ ⟨hq, ⟨q, hq⟩, fun _ _ e k => k _ e⟩)
  · unfold uK at d5
    rw [List.map_map] at d5
    exact d5
  · rw [d4]
    unfold uK
    rw [List.map_map]
    refine List.map_congr_left fun x _ => ?_
    rw [← D.nk_hash X.w W x.1]
    rfl
/-- {k: v for target in iter if ..}, keys tuples: D the new dict -/
def tDcU (K : PySem.W.Frag) (wi : TI) (g : TG) (tt : TT) (tk tv : TE) (vs : List Nat) : TE := fun σ H Q => wi σ H fun J H1 => ∀ D, H1 D = none → ∃ W : Nat → Nat → Hp → Prop, (∃ m, W 0 m (upd H1 D (.dK []))) ∧ ∀ i m H, W i m H →
  (J.stop i H ∧ Q (.ref D) H) ∨ (J.go i H ∧ ∃ Nx : Hp → Prop, (∀ H', Nx H' → ∃ m', m' < m ∧ W (i + 1) m' H') ∧ ∀ x H', J.yld i H x H' → g x (wipe σ vs) H' fun σ2 H2 => wipe σ2 vs = wipe σ vs ∧ tt σ2 H2 fun b H3 =>
    if b = true then tk σ2 H3 fun y H4 => tv σ2 H4 fun z H5 => ∃ (w : OM) (xs : List (Z.D × Addr × Value)) (k : Z.D) (b : Addr), y = .ref b ∧
      ((∃ ob, H5 D = some (.ext fun h => h.get? D = some ob) ∧ ExD ob D xs ∧ FzL K H5 w (xs.map (·.1)) (xs.map fun x => .ref x.2.1)) ∨ (xs = [] ∧ H5 D = some (.dK []))) ∧ k.tk = true ∧ Fz K H5 w k (.ref b) ∧ xs.length < sizeLine ∧
      ∀ r ob, RelV z r → ExD ob D (uPut xs k b r) → Nx (upd H5 D (.ext fun h => h.get? D = some ob)) else Nx H3)
theorem dcU_core {pins : List (Addr × Obj)} {s : Shared} {σ : L2.St} {H : Hp} {Q : VK} {kx vx tg iter : Expr} {ifs : List Expr} {scope : Scope} {own : List (Str × Nat)} {pos pos' : Pos} {wi : TI} {g : TG} {tt : TT} {tk tv : TE} {use : Option (Value → Sem Unit)} {Qf : Value → Shared → Prop}
    (hu : X.A.units + 65 < cLine) (hc : X.calm = true) (hN : X.N.Nodup) (I : Inv X pins σ H s) (hi : PI X tg iter wi) (ok : BlkOk X.N X.env.scope scope own)
    (hg : ∀ (s : Shared) (H : Hp) (C : Addr) (cl : List (Str × Addr)) (fp : List Addr), PG (X.blk s H scope (compEnvC scope cl C X.env) fp) tg g) (ht : ∀ (s : Shared) (H : Hp) (C : Addr) (cl : List (Str × Addr)) (fp : List Addr), PTs (X.blk s H scope (compEnvC scope cl C X.env) fp) ifs tt)
    (hk : ∀ (s : Shared) (H : Hp) (C : Addr) (cl : List (Str × Addr)) (fp : List Addr), PE (X.blk s H scope (compEnvC scope cl C X.env) fp) kx tk)
    (he : ∀ (s : Shared) (H : Hp) (C : Addr) (cl : List (Str × Addr)) (fp : List Addr), PE (X.blk s H scope (compEnvC scope cl C X.env) fp) vx tv) (hs : ∀ x, foldedSetIterable iter X.env x = pure x)
    (h : tDcU X.K wi g tt tk tv (own.map (·.2)) σ H Q)
    (hRR : ∀ D C s' m H', Inv X pins σ H' s' → Q (.ref D) H' → s'.heap.Ns C m → FpOk X pins H' C → compPost (model X.prog X.w) X.A X.xe use Qf (.ref D) C (.ok .next) s') :
    wpAny (model X.prog X.w) X.A (comprehension (.DictComp kx vx [⟨tg, iter, ifs, 0⟩] scope pos) scope X.env pos' newDict false (eval iter X.env) use) Qf X.xe s := by
  have hfree : ∀ y ∈ scope.names, y.2 = .free → ∃ c, X.env.cells.lookup y.1 = some c := fun y hy e => by
    rcases ok.free y hy e with k | k
    · exact I.ok.has _ (.inl k)
    · exact I.ok.has _ (.inr k)
  refine wpAny_comprehension_free (use := use) rfl hs (closure_ok hfree) ok.kind (fun y hy e => by rw [ok.uniq y hy, e])
    (thn (hi.run pins s σ H _ I h) fun xv s1 hx => thn hx fun itv s2 h2 => ?_)
  obtain ⟨it, fp, tn, J, H2, e, I2, T, st2, f2, q⟩ := h2
  subst e
  refine wpAny_newObj_type (newEnv_comp ?_)
  generalize hD : s2.heap.objs.size = D
  have hDn : H2 D = none := I2.hok.fresh (Nat.le_of_eq hD)
  obtain ⟨W, ⟨m0, w0⟩, turn⟩ := q D hDn
  -- the new list
  generalize hs3 : ({ s2 with heap := s2.heap.push { cls := .type "dict", data := .dict #[] } } : Shared) = s3
  have I3 : Inv X pins σ (upd H2 D (.dK [])) s3 := by
    rw [← hs3]
    refine I2.laid (t' := s2.toks) (fun b o e => Heap.get?_push_of_some _ e) (Nat.le_of_eq hD) ?_
    rw [← hD]
    exact dk_empty s2.heap I2.big
  have h3 : s3.heap = s2.heap.push { cls := .type "dict", data := .dict #[] } := by rw [← hs3]
  have sz : ∀ b ∈ fp, b < s2.heap.objs.size := fun b hb => by
    obtain ⟨o, e, _⟩ := T.obj _ _ st2 b hb
    exact Heap.lt_size e
  have f3 : ∀ b ∈ fp, FpOk X pins (upd H2 D (.dK [])) b ∧ b < s3.heap.objs.size := fun b hb => by
    have hlt := sz b hb
    refine ⟨⟨?_, (f2 b hb).2⟩, by rw [h3, Heap.size_push]; exact Nat.lt_succ_of_lt hlt⟩
    rw [upd_ne (by rw [← hD]; exact Nat.ne_of_lt hlt)]
    exact (f2 b hb).1
  have st3 : tn 0 s3.heap := T.keep _ _ _ st2 fun b _ o e => by rw [h3]; exact Heap.get?_push_of_some _ e
  have I4 := block_start I3 ok hN f3
  have pg := hg s3 (upd H2 D (.dK [])) s3.heap.objs.size (cellsFrom (s3.heap.objs.size + 1) scope.names (cloFrom X.env.cells scope.names [])) fp
  have pt := ht s3 (upd H2 D (.dK [])) s3.heap.objs.size (cellsFrom (s3.heap.objs.size + 1) scope.names (cloFrom X.env.cells scope.names [])) fp
  have pk := hk s3 (upd H2 D (.dK [])) s3.heap.objs.size (cellsFrom (s3.heap.objs.size + 1) scope.names (cloFrom X.env.cells scope.names [])) fp
  have pe := he s3 (upd H2 D (.dK [])) s3.heap.objs.size (cellsFrom (s3.heap.objs.size + 1) scope.names (cloFrom X.env.cells scope.names [])) fp
  show codeAny _ _ (.compStart (.DictComp kx vx [⟨tg, iter, ifs, 0⟩] scope pos) 0 (.ref it) (.ref D) (compEnvC scope (cellsFrom (s3.heap.objs.size + 1) scope.names (cloFrom X.env.cells scope.names [])) s3.heap.objs.size X.env)) (compPost (model X.prog X.w) X.A X.xe use Qf (.ref D) s3.heap.objs.size) { s3 with heap := pushCells (s3.heap.push { cls := .type "dict", data := .dict #[] }) scope.names }
  have nfp : ∀ b ∈ fp, (upd H2 D (.dK [])) b = none := fun b hb => (f3 b hb).1.1
  generalize hce : compEnvC scope (cellsFrom (s3.heap.objs.size + 1) scope.names (cloFrom X.env.cells scope.names [])) s3.heap.objs.size X.env = ce at I4 pg pt pk pe ⊢
  have cL : ce.locals = s3.heap.objs.size := by subst hce; rfl
  generalize hH3 : upd H2 D (.dK []) = H3 at I3 I4 pg pt pk pe w0 nfp f3
  generalize hs4 : ({ s3 with heap := pushCells (s3.heap.push { cls := .type "dict", data := .dict #[] }) scope.names } : Shared) = s4 at I4 ⊢
  have st4 : tn 0 s4.heap := T.keep _ _ _ st3 fun b _ o e => by rw [← hs4]; exact pushCells_keeps _ _ _ _ (Heap.get?_push_of_some _ e)
  have stat : ∀ {σ' : L2.St} {H' : Hp} {s' : Shared}, Inv (X.blk s3 H3 scope ce fp) [] σ' H' s' → (∀ b ∈ fp, H' b = none) → ∀ b ∈ fp, FpOk (X.blk s3 H3 scope ce fp) [] H' b := fun {σ' H' s'} I' hn b hb =>
    ⟨hn b hb, (I'.ok.exf b hb).1, I'.ok.exfs b hb, .inl hb, fun x c e => (I'.ok.exf b hb).2 x c e, fun p hp => absurd (show p ∈ ([] : List (Addr × Obj)) ++ [] from hp) (by simp)⟩
  have loop : codeAny (model X.prog X.w) X.A (.compLoop (.DictComp kx vx [⟨tg, iter, ifs, 0⟩] scope pos) 0 (.ref it) (.ref D) ce) (compPost (model X.prog X.w) X.A X.xe use Qf (.ref D) s3.heap.objs.size) s4 := by
    refine compLoop_anyD (fun n s' => ∃ i H', Inv (X.blk s3 H3 scope ce fp) [] (wipe σ (own.map (·.2))) H' s' ∧ tn i s'.heap ∧ (∀ b ∈ fp, H' b = none) ∧ W i n H') ?_ m0 ⟨0, H3, I4, st4, nfp, w0⟩
    rintro n s5 ⟨i, H5, I5, st5, n5, w5⟩
    rcases turn i n H5 w5 with ⟨stop, qq⟩ | ⟨go, Nx, hNx, step⟩
    · have td := T.done (X.blk s3 H3 scope ce fp) rfl rfl rfl hc i [] s5 _ H5 (fun _ _ => False) I5 (stat I5 n5) st5 stop
      refine thnF td fun r s6 ⟨hr, I6⟩ => ?_
      subst hr
      -- back in the def's context
      have I7 : Inv X pins σ H5 s6 := I3.call' (ch := fp) I6.os I6.base I6.hok I6.bare fun b hb => ⟨(f3 b hb).1.2.2.2.1, (f3 b hb).1.2.1, (f3 b hb).1.2.2.2.2.1, (f3 b hb).1.2.2.2.2.2⟩
      have nC : H5 s3.heap.objs.size = none := by
        have z : H5 ce.locals = none := I6.free
        rw [cL] at z
        exact z
      obtain ⟨m, hn, _⟩ := I6.loc
      have hn : s6.heap.Ns ce.locals m := hn
      rw [cL] at hn
      exact hRR D s3.heap.objs.size s6 m H5 I7 qq hn (I3.fpOk (Nat.le_refl _) nC)
    · have ti := T.item (X.blk s3 H3 scope ce fp) rfl rfl rfl hc i [] s5 _ H5 (fun _ _ => False) I5 (stat I5 n5) st5 go
      refine thnF ti fun r s6 ⟨u, hr, h6⟩ => ?_
      subst hr
      refine thnF h6 fun _ s7 ⟨x, H7, I7, r7, y7, st7, n7⟩ => ?_
      have I7' := I7.pinned (stat I7 n7) (T.obj _ _ st7)
      refine thnF (pg.run _ s7 _ H7 x u _ I7' r7 (step x H7 y7)) fun _ s8 ⟨σ8, H8, I8, hw8, q8⟩ => ?_
      refine thnF (pt.run _ s8 σ8 H8 _ I8 q8) fun b s9 ⟨H9, I9, q9⟩ => ?_
      -- the turn's end
      have fin : ∀ {s' : Shared} {H' : Hp}, Inv (X.blk s3 H3 scope ce fp) ([] ++ pinsAt fp s7.heap) σ8 H' s' → Nx H' → ∃ m, m < n ∧ ∃ i H', Inv (X.blk s3 H3 scope ce fp) [] (wipe σ (own.map (·.2))) H' s' ∧ tn i s'.heap ∧ (∀ b ∈ fp, H' b = none) ∧ W i m H' := fun {s' H'} I' nx => by
        obtain ⟨m', hm, w'⟩ := hNx H' nx
        have pin' : ∀ b ∈ fp, ∀ o, s7.heap.get? b = some o → s'.heap.get? b = some o ∧ H' b = none := fun b hb o e =>
          let z := I'.pin (b, o) (List.mem_append_right _ (List.mem_append_right _ (mem_pinsAt hb e)))
          ⟨z.1, z.2.1⟩
        have hl : (wipe σ (own.map (·.2))).length = σ8.length := by rw [← hw8, wipe_length]
        refine ⟨m', hm, i + 1, H', (I'.unpinned (pins := [])).weak hl (fun j v e => ?_), T.keep _ _ _ st7 fun b hb o e => (pin' b hb o e).1, fun b hb => ?_, w'⟩
        · rw [← hw8] at e
          exact (wipe_some e).1
        · obtain ⟨o, e, _⟩ := T.obj _ _ st7 b hb
          exact (pin' b hb o e).2
      cases b with
      | false =>
        simp only [Bool.false_eq_true, if_false] at q9 ⊢
        exact fin I9 q9
      | true =>
        simp only [if_true] at q9 ⊢
        refine thnF (pk.run _ s9 σ8 H9 _ I9 q9) fun z s10 ⟨yk, H10, I10, r10, q10⟩ => ?_
        refine thnF (pe.run _ s10 σ8 H10 _ I10 q10) fun z2 s11 ⟨yv, H11, I11, r11, w0, xs, k, b0, ek, hx, hk, fk, hz11, nx⟩ => ?_
        subst ek
        cases (show z = Value.ref b0 from r10)
        have hmu : Mut (H11 D) := by
          rcases hx with ⟨ob, e, _⟩ | ⟨_, e⟩ <;> rw [e] <;> exact True.intro
        have hua : UAt0 (X.blk s3 H3 scope ce fp) H11 D xs := by
          rcases hx with ⟨ob, e, x1, x2⟩ | ⟨rfl, e⟩
          · exact .inl (uat_of e x1 rfl x2)
          · exact .inr ⟨rfl, .inl e⟩
        exact u_dictSet (X := X.blk s3 H3 scope ce fp) hu I11 hmu hua hk (Fz.nkv (X := X.blk s3 H3 scope ce fp) fk (Z.D.tk_kk hk)) hz11 fun s12 ob h1 I12 => fin I12 (nx z2 ob r11 h1)
  exact codeAny_compStart_dict loop (T.self X.A 0 _ _ _ st4 loop)
end
end Z

/-! Y3: dict comprehensions whose keys are tuples of numbers, as pure functions. -/
namespace Z
open PySem PySem.Spec PyProof.Rows L2
section
variable {X : Cx}
def loopDC (it : ItD) (g : MG) (tt : MT) (mk mv : AE) (vs : List Nat) : List D → List D → List D → Env → R ((List D × List D) × Env)
  | [], ks, ds, ρ => .ok ((ks, ds), ρ)
  | d :: r, ks, ds, ρ => do
    let ρa ← g d [] ρ
    let (b, ρb) ← tt ρa
    if b then do
      let (s, ρc) ← mk ρb
      let (c, ρd) ← esc s ρc
      let (s', ρe) ← mv ρd
      let (e, ρf) ← esc s' ρe
      if chkOk it (wipeE ρf vs) && c.d.tk && decide (ks.length < 16777216) then loopDC it g tt mk mv vs r (dPutK ks c.d) (dPutV ks ds c.d e.d) (wipeE ρf vs) else R.bad
    else if chkOk it (wipeE ρb vs) then loopDC it g tt mk mv vs r ks ds (wipeE ρb vs) else R.bad
def mDComp (mi : MI) (g : MG) (tt : MT) (mk mv : AE) (vs : List Nat) : AE := fun ρ => do
  let (it, ρ1) ← mi ρ
  if ownOk ρ1 vs && decide (it.items.length ≤ 16777216) && chkOk it (wipeE ρ1 vs) then do
    let (kd, ρ2) ← loopDC it g tt mk mv vs it.items [] [] (wipeE ρ1 vs)
    R.ok (.v ⟨.dct kd.1 kd.2, 1⟩, restore ρ2 ρ1 vs)
  else R.bad
/-- the dict that grows -/
def DcAt (K : PySem.W.Frag) (H : Hp) (w : OM) (a : Addr) (ks ds : List D) : Prop :=
  (ks = [] ∧ ds = [] ∧ H a = some (.dK [])) ∨ ∃ (ob : Obj) (xs : List (D × Addr × Value)) (ws : List V), H a = some (.ext fun h => h.get? a = some ob) ∧ ExD ob a xs ∧ xs.map (·.1) = ks ∧ FzL K H w ks (xs.map fun x => .ref x.2.1) ∧ Vals ws (xs.map (·.2.2)) ∧ FzL K H w ds ws
theorem DcAt.step {K : PySem.W.Frag} {H H' : Hp} {w w' : OM} {a : Addr} {ks ds : List D} (k : Kp .no H w H' w') (e : ∀ x, H a = some x → H' a = some x) (h : DcAt K H w a ks ds) : DcAt K H' w' a ks ds := by
  rcases h with ⟨h1, h2, h3⟩ | ⟨ob, xs, ws, h1, h2, h3, h4, h5, h6⟩
  · exact .inl ⟨h1, h2, e _ h3⟩
  · exact .inr ⟨ob, xs, ws, e _ h1, h2, h3, h4.step k, h5, h6.step k⟩
theorem DcAt.some {K : PySem.W.Frag} {H : Hp} {w : OM} {a : Addr} {ks ds : List D} (h : DcAt K H w a ks ds) : ∃ x, H a = some x := by
  rcases h with ⟨_, _, h⟩ | ⟨_, _, _, h, _⟩
  · exact ⟨_, h⟩
  · exact ⟨_, h⟩
theorem DcAt.ow {K : PySem.W.Frag} {H : Hp} {w : OM} {a : Addr} {ks ds : List D} {o : Own} (hw : w a = o) (h : DcAt K H w a ks ds) : Ow K H w o 1 (.dct ks ds) (.ref a) := by
  rcases h with ⟨rfl, rfl, h⟩ | ⟨ob, xs, ws, h1, h2, h3, h4, h5, h6⟩
  · exact .dct h hw rfl .nil
  · exact .dcu h1 hw h2 h3 h4 h5 h6
theorem dcU_sem {tg : Expr} {wi : TI} {mi : MI} {g : MG} {tt : MT} {mk mv : AE} {sl vs : List Nat} (hsl : ∀ i ∈ sl, i ∈ vs)
    (f : ∀ (n : Nat) (σ : L2.St) (H : Hp) (w : OM) (ρ : Env) (it : ItD) (ρ' : Env) (Q : It → Hp → Prop), Ok X.K H w σ ρ → mi ρ = .ok (it, ρ') →
      (∀ J H' w', Ok X.K H' w' σ ρ' → Step n H w H' w' → chkOk it ρ' = true → ItOk X.K J 0 it σ H' w' → Q J H') → wi σ H Q) :
    ∀ (n : Nat) (σ : L2.St) (H : Hp) (w : OM) (ρ : Env) (s : Src) (ρ' : Env) (Q : VK), Ok X.K H w σ ρ → mDComp mi g tt mk mv vs ρ = .ok (s, ρ') →
    (∀ v H' w', Ok X.K H' w' σ ρ' → Step n H w H' w' → SrcAt X.K H' w' σ n s v → Q v H') → tDcU X.K wi (rdG X.K sl g) (rdT X.K tt) (rdE X.K mk) (rdE X.K mv) vs σ H Q := by
  intro n σ H w ρ s ρ' Q ok hm k
  obtain ⟨⟨it, ρ1⟩, e1, hm⟩ := R.of_bind hm
  dsimp only at hm
  split at hm
  · rename_i hc
    obtain ⟨⟨kd, ρ2⟩, e2, hm⟩ := R.of_bind hm
    cases hm
    simp only [Bool.and_eq_true, decide_eq_true_eq] at hc
    obtain ⟨⟨hown, hlen⟩, hck⟩ := hc
    refine f n σ H w ρ it ρ1 _ ok e1 fun J H1 w1 ok1 st1 c1 io => ?_
    intro D hD
    have ok2 : Ok X.K (upd H1 D (.dK [])) (w1.put D (.tm n)) σ ρ1 := ok1.new hD _
    have st2 : Step n H1 w1 (upd H1 D (.dK [])) (w1.put D (.tm n)) := Step.new hD
    refine ⟨fun i m H2 => m = it.items.length - i ∧ i ≤ it.items.length ∧ ∃ w2 ρ3 ks ds, Ok X.K H2 w2 (L2.wipe σ vs) ρ3 ∧ Step n H1 w1 H2 w2 ∧ chkOk it ρ3 = true ∧ loopDC it g tt mk mv vs (it.items.drop i) ks ds ρ3 = .ok (kd, ρ2) ∧
        w2 D = .tm n ∧ DcAt X.K H2 w2 D ks ds,
      ⟨_, rfl, Nat.zero_le _, _, _, [], [], ok2.wipe vs, st2, hck, e2, OM.put_same, .inl ⟨rfl, rfl, upd_same⟩⟩, ?_⟩
    rintro i m H2 ⟨rfl, hle, w2, ρ3, ks, ds, ok3, st3, ck3, e3, hwD, dc⟩
    obtain ⟨hoD, hDa⟩ := dc.some
    obtain ⟨go, stop⟩ := io H2 w2 (L2.wipe σ vs) ρ3 i ok3 (st3.mono (Nat.zero_le n)) (fun j hj => by
      unfold chkOk at ck3
      rw [hj] at ck3
      dsimp only at ck3
      split at ck3
      · rename_i c hc
        obtain ⟨v, ev, _⟩ := ok3.slot j c hc
        rw [ev]
        exact (wipe_some ev).1.symm
      · cases ck3) ck3
    by_cases hlt : i < it.items.length
    · obtain ⟨hgo, hy⟩ := go _ (List.getElem?_eq_getElem hlt)
      rw [List.drop_eq_getElem_cons hlt] at e3
      obtain ⟨ρa, ea, e3⟩ := R.of_bind e3
      obtain ⟨⟨b, ρb⟩, eb, e3⟩ := R.of_bind e3
      refine .inr ⟨hgo, fun H4 => ∃ w4 ρ4 ks ds, Ok X.K H4 w4 (L2.wipe σ vs) ρ4 ∧ Step n H1 w1 H4 w4 ∧ chkOk it ρ4 = true ∧ loopDC it g tt mk mv vs (it.items.drop (i + 1)) ks ds ρ4 = .ok (kd, ρ2) ∧
        w4 D = .tm n ∧ DcAt X.K H4 w4 D ks ds, ?_, ?_⟩
      · rintro H4 h4
        exact ⟨it.items.length - (i + 1), by omega, rfl, hlt, h4⟩
      · intro x H3 y
        obtain ⟨w3, ok3f, st3f, fz⟩ := hy x H3 y
        have ok4 := ok3f _ _ ok3
        refine ⟨w3, ρ3, [], _, ρa, ok4, fz, ea, fun σ2 ok5 n5 a5 _ => ?_⟩
        have hwp : L2.wipe σ2 vs = L2.wipe σ vs := wipe_eq (by rw [n5, wipe_length]) fun j hj => a5 j fun z => hj (hsl j z)
        refine ⟨hwp, n + 1, w3, ρa, b, ρb, ok5, eb, fun H5 w5 ok6 st6 => ?_⟩
        have tmf : Fixed (n + 1) (.tm n) := .inr (.inr ⟨n, Nat.lt_succ_self n, rfl⟩)
        have D3 := st3f (n + 1) D _ hDa (by rw [hwD]; exact tmf)
        have hw3 : w3 D = .tm n := D3.2.trans hwD
        have D5 := st6 D _ D3.1 (by rw [hw3]; exact tmf)
        have hw5 : w5 D = .tm n := D5.2.trans hw3
        have dc5 : DcAt X.K H5 w5 D ks ds := (dc.step ((st3f 0).kp (o := .no) (.inl rfl)) fun x e => by rw [hDa] at e; cases e; exact D3.1).step (st6.kp (o := .no) (.inl rfl)) fun x e => by rw [D3.1] at e; cases e; exact D5.1
        have st5 : Step n H1 w1 H5 w5 := (st3.trans (st3f n)).trans (st6.mono (Nat.le_succ n))
        cases b with
        | false =>
          have e3 : (if chkOk it (wipeE ρb vs) = true then loopDC it g tt mk mv vs (it.items.drop (i + 1)) ks ds (wipeE ρb vs) else R.bad) = .ok (kd, ρ2) := e3
          split at e3
          · exact iteF ⟨w5, wipeE ρb vs, ks, ds, ok6.wipe2 hwp, st5, by assumption, e3, hw5, dc5⟩
          · cases e3
        | true =>
          obtain ⟨⟨s1, ρc⟩, ec, e3⟩ := R.of_bind (show (mk ρb >>= _) = _ from e3)
          obtain ⟨⟨c, ρd⟩, ed, e3⟩ := R.of_bind e3
          obtain ⟨⟨s2, ρe⟩, ee, e3⟩ := R.of_bind e3
          obtain ⟨⟨e, ρf⟩, ef, e3⟩ := R.of_bind e3
          dsimp only at e3
          split at e3
          · rename_i hck2
            simp only [Bool.and_eq_true, decide_eq_true_eq] at hck2
            obtain ⟨⟨hck2, htk⟩, hkl⟩ := hck2
            refine iteT ⟨n + 1, w5, ρb, s1, ρc, ok6, ec, fun v H6 w6 ok7 st7 sa => ?_⟩
            obtain ⟨w7, ok8, st8, ow, kp8⟩ := esc_ok ok7 sa ed
            have D6 := st7 D _ D5.1 (by rw [hw5]; exact tmf)
            have hw6 : w6 D = .tm n := D6.2.trans hw5
            have D7 := st8 (n + 1) D _ D6.1 (by rw [hw6]; exact tmf)
            have hw7 : w7 D = .tm n := D7.2.trans hw6
            have hw8 : (w7.re (.tm (n + 1)) .no) D = .tm n := by rw [OM.re_ne (by rw [hw7]; intro z; cases z)]; exact hw7
            have ok9 : Ok X.K H6 (w7.re (.tm (n + 1)) .no) σ2 ρd := ok8.re (by intro z; cases z) (by intro i z; cases z)
            have fz9 : Fz X.K H6 (w7.re (.tm (n + 1)) .no) c.d v := ow.freeze (by intro z; cases z)
            have st9 : Step (n + 1) H5 w5 H6 (w7.re (.tm (n + 1)) .no) := (st7.trans (st8 _)).trans (Step.re not_fixed_tm)
            have dc9 : DcAt X.K H6 (w7.re (.tm (n + 1)) .no) D ks ds := dc5.step (st9.kp (o := .no) (.inl rfl)) fun x e => by rw [D5.1] at e; cases e; exact D6.1
            refine ⟨n + 1, _, ρd, s2, ρe, ok9, ee, fun z H7 wa oka sta saa => ?_⟩
            obtain ⟨wb, okb, stb, owb, _⟩ := esc_ok oka saa ef
            have Da := sta D _ D6.1 (by rw [hw8]; exact tmf)
            have hwa : wa D = .tm n := Da.2.trans hw8
            have Db := stb (n + 1) D _ Da.1 (by rw [hwa]; exact tmf)
            have hwb : wb D = .tm n := Db.2.trans hwa
            have hwc : (wb.re (.tm (n + 1)) .no) D = .tm n := by rw [OM.re_ne (by rw [hwb]; intro z; cases z)]; exact hwb
            have okc : Ok X.K H7 (wb.re (.tm (n + 1)) .no) σ2 ρf := okb.re (by intro z; cases z) (by intro i z; cases z)
            have fzc : Fz X.K H7 (wb.re (.tm (n + 1)) .no) e.d z := owb.freeze (by intro z; cases z)
            have stc : Step (n + 1) H6 (w7.re (.tm (n + 1)) .no) H7 (wb.re (.tm (n + 1)) .no) := (sta.trans (stb _)).trans (Step.re not_fixed_tm)
            have dcc : DcAt X.K H7 (wb.re (.tm (n + 1)) .no) D ks ds := dc9.step (stc.kp (o := .no) (.inl rfl)) fun x e => by rw [D6.1] at e; cases e; exact Da.1
            have fzk : Fz X.K H7 (wb.re (.tm (n + 1)) .no) c.d v := fz9.step (stc.kp (o := .no) (.inl rfl))
            obtain ⟨b0, rfl, _, fzk⟩ := ow_tk (X := X) htk (.fz fzk : Ow X.K H7 (wb.re (.tm (n + 1)) .no) .out 0 c.d v)
            have stn : Step n H1 w1 H7 (wb.re (.tm (n + 1)) .no) := (st5.trans (st9.mono (Nat.le_succ n))).trans (stc.mono (Nat.le_succ n))
            have fin : ∀ (xs : List (Z.D × Addr × Value)) (ws : List V), xs.map (·.1) = ks → FzL X.K H7 (wb.re (.tm (n + 1)) .no) ks (xs.map fun x => .ref x.2.1) → Vals ws (xs.map (·.2.2)) → FzL X.K H7 (wb.re (.tm (n + 1)) .no) ds ws → ∀ r ob, RelV z r → ExD ob D (uPut xs c.d b0 r) →
                ∃ w4 ρ4 ks ds, Ok X.K (upd H7 D (.ext fun h => h.get? D = some ob)) w4 (L2.wipe σ vs) ρ4 ∧ Step n H1 w1 (upd H7 D (.ext fun h => h.get? D = some ob)) w4 ∧ chkOk it ρ4 = true ∧ loopDC it g tt mk mv vs (it.items.drop (i + 1)) ks ds ρ4 = .ok (kd, ρ2) ∧ w4 D = .tm n ∧ DcAt X.K (upd H7 D (.ext fun h => h.get? D = some ob)) w4 D ks ds := by
              intro xs ws hks fk rw' fd r ob rv hx
              subst hks
              have h0 : (wb.re (.tm (n + 1)) .no) D ≠ .no := by rw [hwc]; intro z; cases z
              have kw := Kp.write (H := H7) (u := .ext fun h => h.get? D = some ob) (o1 := .no) h0 h0
              exact ⟨_, _, _, _, (okc.write hwc).wipe2 hwp, stn.trans (Step.write (by rw [hwc]; exact not_fixed_tm)), hck2, e3, hwc, .inr ⟨ob, _, _, upd_same, hx, uPut_keys, uPut_fk (fk.step kw) (fzk.step kw), uPut_vals rw' rv, (fd.step kw).putV (fzc.step kw)⟩⟩
            rcases dcc with ⟨rfl, rfl, hH⟩ | ⟨ob, xs, ws, h1, h2, h3, h4, h5, h6⟩
            · exact ⟨_, [], c.d, b0, rfl, .inr ⟨rfl, hH⟩, htk, fzk, by rw [sizeLine_eq]; exact Nat.zero_lt_succ _, fin [] [] rfl .nil .nil .nil⟩
            · exact ⟨_, xs, c.d, b0, rfl, .inl ⟨ob, h1, h2, by rw [h3]; exact h4⟩, htk, fzk, by rw [sizeLine_eq]; rw [← h3, List.length_map] at hkl; exact hkl, fin xs ws h3 h4 h5 h6⟩
          · cases e3
    · have e : i = it.items.length := by omega
      subst e
      rw [List.drop_length] at e3
      cases e3
      refine .inl ⟨stop (Nat.le_refl _), k (.ref D) H2 w2 ?_ (st1.trans st3) (dc.ow hwD)⟩
      refine ⟨by rw [restore_length, ← ok3.len, wipe_length], fun i c h => ?_, ok3.live⟩
      rcases restore_get h with ⟨h1, h2⟩ | ⟨h1, h2⟩
      · obtain ⟨v, ev, q⟩ := ok3.slot i c h2
        exact ⟨v, (wipe_some ev).1, q⟩
      · obtain ⟨v, ev, q⟩ := ok1.slot i c h2
        have hk : c.k = 0 := by
          have := List.all_eq_true.mp hown i h1
          rw [h2] at this
          exact of_decide_eq_true this
        rw [hk] at q ⊢
        refine ⟨v, ev, ?_⟩
        cases q with
        | fz q => exact .fz (st3.fz q)
  · cases hm
end
end Z

/-! Y4: sorted of a tuple of tuples of numbers (and of such tuples). -/
namespace Z
open PySem PySem.Spec PyProof.Rows L2
section
variable {prog : Program} {w : World} {A : Around} {E : Value → Shared → Prop} {s : Shared}
theorem sorted_ordT {l : Addr} {vs : List Value} {ltv : Value → Value → Bool} {Q : Value → Shared → Prop} (O : SrtO.Swo ltv) (hl : s.heap.IsTuple l vs.toArray) (hz : vs.length ≤ sizeLine)
    (hS : 2 ≤ vs.length → ∀ (h₁ : Heap) (a : Addr), h₁.get? a = some (seqObj "list" vs.toArray 0) → (∀ b o, s.heap.get? b = some o → b ≠ a ∧ h₁.get? b = some o) → SrtO.SortableO prog w A.in1.in1 { s with heap := h₁ } a vs ltv)
    (h : ∀ (h1 h' : Heap) (out : List Value), SrtO.Srtd ltv out → SrtO.Stb ltv out vs → (∀ b o, s.heap.get? b = some o → h1.get? b = some o) → (∀ b o, s.heap.get? b = some o → h'.get? b = some o) → (∃ n, h'.get? h1.objs.size = some (seqObj "list" out.toArray n)) → Q (.ref h1.objs.size) { s with heap := h' }) :
    wpAny (model prog w) A (call (.builtin "sorted") [.ref l]) Q E s := by
  obtain ⟨o, ho, hcl, m, hd⟩ := hl
  refine Calls.call_function_entry kind_sorted plain_sorted entry_sorted (args_sorted1 _) ?_
  unfold Builtin.«sorted»
  refine wpAny_bind (m := checkCount "sorted" 1 1 _) (wpAny_pure ?_)
  refine wpAny_bind (wpAny_collect_seq l (.inr rfl) ho hcl hd (fun h1 k1 => ?_) (by rw [List.size_toArray]; omega))
  have hol : (h1.push (seqObj "list" vs.toArray 0)).get? h1.objs.size = some (seqObj "list" vs.toArray 0) := Heap.get?_push_size _ rfl
  refine wpAny_bind (wpAny_newList (s := { s with heap := h1 }) ?_ (by show vs.length ≤ _; omega))
  have keep : ∀ b o, s.heap.get? b = some o → b ≠ h1.objs.size ∧ (h1.push (seqObj "list" vs.toArray 0)).get? b = some o := fun b u e => by
    have lt := Heap.lt_size (k1 b u e)
    exact ⟨Nat.ne_of_lt lt, Heap.get?_push_of_some _ (k1 b u e)⟩
  refine wpAny_bind (wpAny_holding (wpAny_call_entry slot_list_sort ⟨_, hol, rfl⟩ entry_list_sort (SrtO.list_sort_ord O hol (by omega) (fun h2 => hS h2 _ _ hol keep) fun out hs hb => ⟨_, rfl, ?_⟩) (args_list_sort _)))
  obtain ⟨c, hc2⟩ := sortedHeap_at (vs := vs) (out := out.toArray) hol
  have kk : ∀ b u, s.heap.get? b = some u → (sortedHeap (h1.push (seqObj "list" vs.toArray 0)) h1.objs.size vs out.toArray).get? b = some u := fun b u e => by
    have lt := Heap.lt_size (k1 b u e)
    rw [sortedHeap_old (Nat.ne_of_lt lt) (by rw [size_push']; exact Nat.lt_succ_of_lt lt)]
    exact Heap.get?_push_of_some _ (k1 b u e)
  refine wpAny_pure ⟨_, rfl, ?_⟩
  exact h h1 _ out hs hb k1 kk ⟨c, hc2⟩
theorem keys_sortable {vs : List Value} {k : Value → NestedKey} {sh : Shp} {num : Bool} (h2 : 2 ≤ vs.length) (hu : A.units + 20 < cLine) (hp : ∀ v ∈ vs, KeyIn s.heap sh num (k v) v) {h₁ : Heap} {a : Addr} (ha : h₁.get? a = some (seqObj "list" vs.toArray 0)) (kk : ∀ b o, s.heap.get? b = some o → b ≠ a ∧ h₁.get? b = some o) :
    SrtO.SortableO prog w A.in1.in1 { s with heap := h₁ } a vs (fun v u => lx (enc (k v)) (enc (k u))) := by
  intro h' keep
  have hcls : ∀ b o, h₁.get? b = some o → o.cls = .type "tuple" → b ≠ a := fun b o e c z => by
    subst z
    have e' : some o = some (seqObj "list" vs.toArray 0) := e.symm.trans ha
    cases e'
    exact absurd (Value.type.inj c) (by decide)
  have hp' : ∀ v ∈ vs, KeyIn h' sh num (k v) v := fun v hm => ((hp v hm).keep fun b o e _ => (kk b o e).2).keep fun b o e c => keep b o (hcls b o e c) e
  obtain ⟨fs, f1, f2, f3⟩ := firsts_k hp'
  have u2 : A.in1.in1.units = A.units + 2 := rfl
  refine ⟨tuples' num, fun Q E hq => ?_, fun p q hm hm' => ?_⟩
  · cases hn : num with
    | true =>
      subst hn
      refine PySem.W.kat_kind (T := .type "int") f1 (by omega) (fun f hm => ?_) (by rfl) ?_
      · rcases f3 f hm with ⟨_, i, t, rfl⟩ | ⟨h0, _⟩
        · exact PySem.W.Looks.now
        · cases h0
      · have e : (Value.type "int" != Value.type "tuple") = true := by first | decide +kernel | rfl | decide
        rw [e]
        exact hq
    | false =>
      subst hn
      refine PySem.W.kat_kind (T := .type "tuple") f1 (by omega) (fun f hm => ?_) (by rfl) ?_
      · rcases f3 f hm with ⟨h0, _⟩ | ⟨_, q, o, rfl, g, c⟩
        · cases h0
        · have z : PySem.W.Looks (model prog w) h' (typeOf (.ref q)) o.cls := (PySem.W.Looks.ld g).andThen .now
          rw [c] at z
          exact z
      · have e : (Value.type "tuple" != Value.type "tuple") = false := by first | decide +kernel | rfl | decide
        rw [e]
        exact hq
  · have x1 := hp' _ hm
    have x2 := hp' _ hm'
    show wpAny (model prog w) A.in1.in1 (keyLt' (tuples' num) p.1 q.1) (fun r s' => s' = { s with heap := h' } ∧ r = lx (enc (k p.1)) (enc (k q.1))) (fun _ _ => False) { s with heap := h' }
    obtain ⟨y1, l1, e1, c1⟩ := x1.first
    obtain ⟨y2, l2, e2, c2⟩ := x2.first
    have i1 := x1.is
    have i2 := x2.is
    have g1 := x1.fit
    have g2 := x2.fit
    have d1 := x1.dep
    have d2 := x2.dep
    rw [e1] at i1 g1 d1
    rw [e2] at i2 g2 d2
    rw [e1, e2]
    rcases fits_cases g1 g2 with ⟨i, j, z, _⟩ | ⟨l', m', z1, z2, al⟩
    · cases z
    · cases z1
      cases z2
      generalize p.1 = v1 at i1 ⊢
      generalize q.1 = v2 at i2 ⊢
      cases i1 with
      | tup ga ca da na =>
        cases i2 with
        | tup gb cb db nb =>
          simp only [NestedKey.depth] at d1 d2
          refine PySem.W.kat_lt ga da gb db ?_
          have key := kat_keys (prog := prog) (w := w) (A := A.in1.in1) (s := { s with heap := h' }) (b := num) (n := 9) (Q := fun r s' => s' = { s with heap := h' } ∧ r = lx (enc (.tup (y1 :: l1))) (enc (.tup (y2 :: l2)))) (by rw [u2]; omega) (y1 :: l1) (y2 :: l2) _ _ 0 al na nb (by omega) (by omega) (fun hn _ k j l' m' ek ej => ?_) ⟨rfl, rfl⟩
          · simpa using key
          · cases ek
            cases ej
            rcases c1 with ⟨_, i, rfl⟩ | ⟨h0, _⟩
            · rcases c2 with ⟨_, j, rfl⟩ | ⟨h0, _⟩
              · exact ⟨⟨_, rfl⟩, _, rfl⟩
              · rw [hn] at h0; cases h0
            · rw [hn] at h0; cases h0
end
section
variable {X : Cx}
def rSortedKT (X : Cx) (vs : List V) (H : Hp) (Q : VK) : Prop := ∃ (a : Addr) (xs : List V) (ks : List NestedKey) (sh : Shp) (num : Bool), vs = [V.ref a] ∧ SqT X.K H a xs ∧ KeysAt X H xs ks ∧ (∀ k ∈ ks, KeyOk sh num k) ∧
  ∀ (zs : List (V × NestedKey)) (p : Addr), zs.Perm (xs.zip ks) → zs.Pairwise (fun y z => lx (enc z.2) (enc y.2) = false) → H p = none → Q (.ref p) (upd H p (.lst (zs.map (·.1))))
theorem cr_sortedKT (hu : X.A.units + 65 < cLine) : CallR X (.builtin "sorted") (rSortedKT X) := by
  intro pins s σ H vs us Q I r h
  obtain ⟨a, xs, ks, sh, num, rfl, hs, hx, hok, q⟩ := h
  rw [Vals.ref1 r]
  obtain ⟨its, rv, pt, hz⟩ := I.tuple hs
  obtain ⟨hp, hzip⟩ := keys_zip I hx
  obtain ⟨e1, e2⟩ := refs_back rv fun x m => by
    obtain ⟨t, e, _⟩ := hp x m
    exact ⟨t, e⟩
  have kf : ∀ u ∈ its, fwV (backV u) = u := fun u hu => by
    obtain ⟨t, rfl⟩ := e2 u hu
    rfl
  have hkin : ∀ v ∈ its, KeyIn s.heap sh num (keyAt s.heap v) v := fun v hv => by
    obtain ⟨t, rfl⟩ := e2 v hv
    have hm : V.ref t ∈ xs := by rw [e1]; exact List.mem_map.mpr ⟨_, hv, rfl⟩
    obtain ⟨t', e, k, hk, ht⟩ := hp _ hm
    cases e
    rw [keyAt_eq ht]
    have o := hok k hk
    exact ⟨ht, o.fit, o.dep, o.first⟩
  have hil : its.length = xs.length := rv.length.symm
  refine sorted_ordT (swo_keys (keyAt s.heap)) (show s.heap.IsTuple a its.toArray from pt) (by rw [hil]; exact hz) (fun h2 h₁ a ha kk => keys_sortable h2 (by omega) hkin ha kk) fun h1 h' out hs hb k1 kp hn => ?_
  have h3 : ∀ u ∈ out, ∃ a, u = Value.ref a := fun u hu => e2 u (hb.perm.mem_iff.mp hu)
  obtain ⟨n, hn⟩ := hn
  have hq1 : H h1.objs.size = none := (I.hok.kept k1).fresh (Nat.le_refl _)
  have hg : s.heap.get? h1.objs.size = none := by
    cases z : s.heap.get? h1.objs.size with
    | none => rfl
    | some u => exact absurd (Heap.lt_size (k1 _ _ z)) (Nat.lt_irrefl _)
  have hperm : (out.map backV).Perm xs := by rw [e1]; exact hb.perm.map backV
  have hq := q (out.map fun u => (backV u, keyAt s.heap u)) h1.objs.size (by
    rw [hzip, e1, List.map_map]
    have : its.map ((fun x => (x, keyAt s.heap (fwV x))) ∘ backV) = its.map fun u => (backV u, keyAt s.heap u) := List.map_congr_left fun u hu => by
      show (backV u, keyAt s.heap (fwV (backV u))) = _
      rw [kf u hu]
    rw [this]
    exact hb.perm.map _) (by
    rw [List.pairwise_map]
    exact List.Pairwise.imp (fun h => h) hs) hq1
  rw [List.map_map] at hq
  refine ⟨.ref h1.objs.size, upd H h1.objs.size (.lst (out.map backV)), I.laidN (t' := s.toks) kp hg hq1 ⟨?_, out, n, vals_back h3, hn⟩, rfl, hq⟩
  rw [hperm.length_eq]
  exact hz
/-- sorted of a tuple of keys of one shape -/
def fSortKT : List Cell → R Cell
  | [⟨.tup l, _⟩] => match l.head?.bind D.begins with
    | some b => if keysOk (Shp.of (l.headD .non)) b l then .ok ⟨.lst (ksort l), 1⟩ else .bad
    | none => .bad
  | _ => .bad
theorem s_sortKT : CallS X (rSortedKT X) fSortKT := by
  intro n H w σ ρ cs vs c Q ok ow e k
  unfold fSortKT at e
  split at e
  · rename_i l kk
    split at e
    · rename_i b hb
      split at e
      · rename_i hko
        cases e
        obtain ⟨v, o, rfl, h1⟩ := ow.one
        obtain ⟨a, xs, rfl, ta, ff⟩ := ow_tup h1
        generalize hsh : Shp.of (l.headD .non) = sh at hko
        obtain ⟨i1, i2, i3, i4⟩ := keys_at ff hko
        refine ⟨a, xs, l.map D.nk, sh, b, rfl, ta.sq, i1, i2, fun zs p hp hs hq => ?_⟩
        have hlen : (l.map D.nk).length = xs.length := by rw [List.length_map]; exact ff.length
        have e1 : (zs.map (·.2)).Perm (l.map D.nk) := by
          have := hp.map (·.2)
          rw [List.map_snd_zip (by rw [hlen]; exact Nat.le_refl _)] at this
          exact this
        have back : ∀ k ∈ l.map D.nk, (dn k).nk = k := fun k hk => by
          obtain ⟨d, hd, rfl⟩ := List.mem_map.mp hk
          rw [dn_nk (i3 d hd)]
        have e2 : (zs.map fun z => dn z.2) = ksort l := by
          refine ksort_uniq hko ?_ ?_
          · have h3 := e1.map dn
            rw [List.map_map, List.map_map] at h3
            have h4 : l.map (dn ∘ D.nk) = l := (List.map_congr_left fun d hd => dn_nk (i3 d hd)).trans (List.map_id _)
            rw [h4] at h3
            exact h3
          · rw [List.pairwise_map]
            refine List.Pairwise.imp_of_mem (fun {y z} hy hz h => ?_) hs
            have by_ := back y.2 (e1.mem_iff.mp (List.mem_map.mpr ⟨y, hy, rfl⟩))
            have bz := back z.2 (e1.mem_iff.mp (List.mem_map.mpr ⟨z, hz, rfl⟩))
            unfold kLe
            rw [by_, bz, h]
            rfl
        have fz : ∀ {zs : List (V × NestedKey)}, (∀ z ∈ zs, Fz X.K H w (dn z.2) z.1) → FzL X.K H w (zs.map fun z => dn z.2) (zs.map (·.1)) := by
          intro zs
          induction zs with
          | nil => intro _; exact .nil
          | cons z zs ih => intro h; exact .cons (h z (List.mem_cons_self ..)) (ih fun y hy => h y (List.mem_cons_of_mem _ hy))
        have f2 := fz (zs := zs) fun z hz => i4 z (hp.mem_iff.mp hz)
        rw [e2] at f2
        exact k _ _ (w.put p (.tm n)) (ok.new hq _) (Step.new hq) (.lst upd_same OM.put_same (f2.step (Kp.new hq .no)))
      · cases e
    · cases e
  · cases e
end
end Z

/-! Y5: y = {k: v for ..} on one line, y a local. -/
namespace Z
open PySem PySem.Spec PyProof.Rows L2
section
variable {X : Cx}
theorem ps_setDcU {i : Nat} {y : Str} {py : Pos} {kx vx tg iter : Expr} {ifs : List Expr} {scope : Scope} {own : List (Str × Nat)} {pos spos : Pos} {wi : TI} {g : TG} {tt : TT} {tk tv : TE} (hu : X.A.units + 65 < cLine) (hc : X.calm = true) (hN : X.N.Nodup) (hy : X.N[i]? = some y) (hyl : X.env.scope.names.lookup y = some .local)
    (hsw : swapsWith (.DictComp kx vx [⟨tg, iter, ifs, 0⟩] scope pos) (some (.Name y py)) spos.line X.env = pure true) (hi : PI X tg iter wi) (ok : BlkOk X.N X.env.scope scope own)
    (hg : ∀ (s : Shared) (H : Hp) (C : Addr) (cl : List (Str × Addr)) (fp : List Addr), PG (X.blk s H scope (compEnvC scope cl C X.env) fp) tg g) (ht : ∀ (s : Shared) (H : Hp) (C : Addr) (cl : List (Str × Addr)) (fp : List Addr), PTs (X.blk s H scope (compEnvC scope cl C X.env) fp) ifs tt)
    (hk : ∀ (s : Shared) (H : Hp) (C : Addr) (cl : List (Str × Addr)) (fp : List Addr), PE (X.blk s H scope (compEnvC scope cl C X.env) fp) kx tk)
    (he : ∀ (s : Shared) (H : Hp) (C : Addr) (cl : List (Str × Addr)) (fp : List Addr), PE (X.blk s H scope (compEnvC scope cl C X.env) fp) vx tv) (hs : ∀ x, foldedSetIterable iter X.env x = pure x := by intro _; rfl) :
    PS X (.Assign [.Name y py] (.DictComp kx vx [⟨tg, iter, ifs, 0⟩] scope pos) spos) (tAsg (tDcU X.K wi g tt tk tv (own.map (·.2))) (gName i)) := by
  refine ⟨fun pins s σ H D I h => ?_⟩
  rw [exec_Assign_Name_used _ _ _ _ hsw]
  refine wpAny_bind (wpAny_standAt (wpAny_bind ?_))
  show wpAny _ X.A (do let _ ← comprehension (.DictComp kx vx [⟨tg, iter, ifs, 0⟩] scope pos) scope X.env (firstIterPos [⟨tg, iter, ifs, 0⟩] pos) newDict false (eval iter X.env) (some (assign (.Name y py) X.env))) _ _ s
  have h : tDcU X.K wi g tt tk tv (own.map (·.2)) σ H (fun x H1 => gName i x σ H1 D.nx) := h
  refine wpAny_bind (thn (dcU_core (Qf := fun _ s' => SP X pins D .next s') hu hc hN I hi ok hg ht hk he hs h fun L C s' m H' I' q hn f => ?_) fun _ s' hq => wpAny_pure (wpAny_pure hq))
  show wpAny _ _ (assign (.Name y py) X.env (.ref L)) _ _ _
  refine wpAny_assign_Name (store_ok2 (v := V.ref L) I' hN hy (.inl hyl) rfl (fun s2 I2 ⟨a, sb, ha⟩ => ?_) (.inr hyl))
  obtain ⟨f0, f1, f2, f3, f4, f5⟩ := f
  have haC : C ≠ a := by
    rcases ha with z | z
    · rw [z]; exact f1
    · exact fun e => f4 y a z e.symm
  refine ⟨m, hn.sameBut sb haC, fun h3 sb3 => ?_⟩
  exact ⟨_, H', I2.turned (t' := s2.toks) (fun b o hb e => (sb3.2 b hb).trans e) f0 f1 f3 f4 f5, q⟩
theorem sw_trueD {kx vx : Expr} {gs : List Comprehension} {scope : Scope} {pos py : Pos} {y : Str} {l : Nat} {env : PySem.Env} (hk : env.scope.kind = .function) (hy : env.scope.names.lookup y = some .local) (hl : (py.line == pos.line) = true)
    (ha : (scope.names.any fun (n, k) => n == y && (k == .local || k == .cell)) = false) : swapsWith (.DictComp kx vx gs scope pos) (some (.Name y py)) l env = pure true := by
  have ky : env.kindOf y = some .local := hy
  have hb : env.blockKind = .function := by unfold Env.blockKind; rw [hk]; rfl
  unfold swapsWith
  simp only [hb, ky, ha, Expr.pos, hl]
  rfl
theorem ss_setDcU {i : Nat} {y : Str} {py : Pos} {kx vx tg iter : Expr} {ifs : List Expr} {scope : Scope} {own : List (Str × Nat)} {pos spos : Pos} {mi : MI} {g : MG} {tt : MT} {mk mv : AE} {sl vs : List Nat} (hu : X.A.units + 65 < cLine) (hc : X.calm = true) (hN : X.N.Nodup) (hi : SI X tg iter mi) (ok : BlkOk X.N X.env.scope scope own) (hv : own.map (·.2) = vs)
    (hg : ∀ (s : Shared) (H : Hp) (C : Addr) (cl : List (Str × Addr)) (fp : List Addr), SG (X.blk s H scope (compEnvC scope cl C X.env) fp) tg sl g) (ht : ∀ (s : Shared) (H : Hp) (C : Addr) (cl : List (Str × Addr)) (fp : List Addr), STs (X.blk s H scope (compEnvC scope cl C X.env) fp) ifs tt)
    (hk : ∀ (s : Shared) (H : Hp) (C : Addr) (cl : List (Str × Addr)) (fp : List Addr), SA (X.blk s H scope (compEnvC scope cl C X.env) fp) kx mk)
    (he : ∀ (s : Shared) (H : Hp) (C : Addr) (cl : List (Str × Addr)) (fp : List Addr), SA (X.blk s H scope (compEnvC scope cl C X.env) fp) vx mv) (hsl : ∀ i ∈ sl, i ∈ vs := by decide)
    (hy : X.N[i]? = some y := by rfl) (hyl : X.env.scope.names.lookup y = some .local := by rfl) (hsw : swapsWith (.DictComp kx vx [⟨tg, iter, ifs, 0⟩] scope pos) (some (.Name y py)) spos.line X.env = pure true := by exact sw_trueD rfl rfl rfl (by decide +kernel)) (hs : ∀ x, foldedSetIterable iter X.env x = pure x := by intro _; rfl) :
    SS X (.Assign [.Name y py] (.DictComp kx vx [⟨tg, iter, ifs, 0⟩] scope pos) spos) (mSet i (mDComp mi g tt mk mv vs)) := by
  subst hv
  obtain ⟨wi, p, f⟩ := hi.ex
  exact ⟨_, ps_setDcU hu hc hN hy hyl hsw p ok (fun s H C cl fp => (hg s H C cl fp).rd) (fun s H C cl fp => (ht s H C cl fp).rd) (fun s H C cl fp => (hk s H C cl fp).rd) (fun s H C cl fp => (he s H C cl fp).rd) hs, mSet_core (dcU_sem (X := X) (tg := tg) hsl f)⟩
end
end Z

namespace S
open Z PySem PySem.Spec PyProof.Rows
def m_narrowed : MS := (mSeq (mRet (mPrim fAdd [(mPrim fAdd [(mSl (aVar 0) none (some (aVar 1))), (mTup [(mPrim fTuple [(aVar 2)])])]), (mSl (aVar 0) (some (mPrim fAdd [(aVar 1), (aC (.int 1))])) none)])) mNext)
def c_narrowed : FD := runDef 3 m_narrowed
def m_is_leaf : MS := (mSeq (mRet (mPrim fEq [(mPrim fIx [(aVar 0), (aC (.int 0))]), (aC (.str "end"))])) mNext)
def c_is_leaf : FD := runDef 1 m_is_leaf
def b_nodes_from_1 (c_nodes_from : FD) : MS := (mSeq (mAsg (gT 2 (gsCons (gN 5) (gsCons (gN 6) gsNil))) (mPrim fIx [(mPrim fIx [(aVar 2), (aC (.int 2))]), (aVar 4)])) (mSeq (mExpr (mMeth 3 fExtend [(mCall c_nodes_from [(mPrim fAdd [(aVar 0), (mTup [(aVar 4)])]), (mCall c_narrowed [(aVar 1), (mPrim fIx [(aVar 2), (aC (.int 1))]), (aVar 5)]), (aVar 6)])])) mNext))
def m_nodes_from (c_nodes_from : FD) : MS := (mSeq (mSet 3 (mLst [(mTup [(aVar 0), (aVar 1), (aVar 2)])])) (mSeq (mIf (mTest (mCall c_is_leaf [(aVar 2)])) (mSeq (mRet (aVar 3)) mNext) mNext) (mSeq (mFor (mRange1 (mPrim fLen [(mPrim fIx [(aVar 2), (aC (.int 2))])])) (gN 4) (b_nodes_from_1 c_nodes_from)) (mSeq (mRet (aVar 3)) mNext))))
def c_nodes_from : Nat → FD
  | 0 => fun _ => .bad
  | n + 1 => runDef 7 (m_nodes_from (c_nodes_from n))
def t_questions_of_1 : MT := (mNotT (mTest (mCall c_is_leaf [(aVar 4)])))
def e_questions_of_2 : AE := (mTup [(aVar 2), (mPrim fIx [(aVar 4), (aC (.int 1))]), (aVar 3)])
def m_questions_of : MS := (mSeq (mRet (mPrim fTuple [(mComp (mItems (mCall (c_nodes_from 30) [(mTup []), (aVar 0), (aVar 1)])) (gT 3 (gsCons (gN 2) (gsCons (gN 3) (gsCons (gN 4) gsNil)))) t_questions_of_1 e_questions_of_2 [2, 3, 4])])) mNext)
def c_questions_of : FD := runDef 5 m_questions_of
def b_node_at_k36_1 : MS := (mSeq (mSet 2 (mPrim fIx [(mPrim fIx [(mPrim fIx [(aVar 2), (aC (.int 2))]), (aVar 3)]), (aC (.int 1))])) mNext)
def m_node_at_k36 : MS := (mSeq (mSet 2 (aVar 0)) (mSeq (mFor (mItems (aVar 1)) (gN 3) b_node_at_k36_1) (mSeq (mRet (aVar 2)) mNext)))
def c_node_at_k36 : FD := runDef 4 m_node_at_k36
def m_branches_at : MS := (mSeq (mRet (mPrim fIx [(mCall c_node_at_k36 [(aVar 0), (aVar 1)]), (aC (.int 2))])) mNext)
def c_branches_at : FD := runDef 2 m_branches_at
def m_kinds_at : MS := (mSeq (mRet (mPrim fIx [(mPrim fIx [(mCall c_branches_at [(aVar 0), (aVar 1)]), (aVar 2)]), (aC (.int 0))])) mNext)
def c_kinds_at : FD := runDef 3 m_kinds_at
def b_branch_with_k36_1 : MS := (mSeq (mIf (mTest (mPrim (fIn false) [(aVar 2), (mCall c_kinds_at [(aVar 0), (aVar 1), (aVar 3)])])) (mSeq (mRet (aVar 3)) mNext) mNext) mNext)
def m_branch_with_k36 : MS := (mSeq (mFor (mRange1 (mPrim fLen [(mCall c_branches_at [(aVar 0), (aVar 1)])])) (gN 3) b_branch_with_k36_1) (mSeq (mRet (aC .non)) mNext))
def c_branch_with_k36 : FD := runDef 4 m_branch_with_k36
def b_own_questions_1 : MS := (mSeq (mIf (mTest (mPrim fEq [(aVar 5), (aVar 2)])) (mSeq (mExpr (mMeth 3 fAppend [(mTup [(aVar 4), (aVar 6)])])) mNext) mNext) mNext)
def m_own_questions : MS := (mSeq (mSet 3 (mLst [])) (mSeq (mFor (mItems (mCall c_questions_of [(aVar 0), (aVar 1)])) (gT 3 (gsCons (gN 4) (gsCons (gN 5) (gsCons (gN 6) gsNil)))) b_own_questions_1) (mSeq (mRet (mPrim fTuple [(aVar 3)])) mNext)))
def c_own_questions : FD := runDef 7 m_own_questions
def b_choices_of_k36_1 : MS := (mSeq (mExpr (mMeth 3 fAppend [(mTup [(aVar 4), (mPrim fLen [(mCall c_branches_at [(aVar 1), (aVar 4)])])])])) mNext)
def m_choices_of_k36 : MS := (mSeq (mSet 3 (mLst [])) (mSeq (mFor (mItems (mCall c_own_questions [(aVar 0), (aVar 1), (aVar 2)])) (gT 2 (gsCons (gN 4) (gsCons (gN 5) gsNil))) b_choices_of_k36_1) (mSeq (mRet (mPrim fTuple [(aVar 3)])) mNext)))
def c_choices_of_k36 : FD := runDef 6 m_choices_of_k36
def b_are_ascending_1 : MS := (mSeq (mIf (mTest (mPrim fGeT [(mPrim fIx [(aVar 0), (mPrim fSub [(aVar 1), (aC (.int 1))])]), (mPrim fIx [(aVar 0), (aVar 1)])])) (mSeq (mRet (aC (.bl false))) mNext) mNext) mNext)
def m_are_ascending : MS := (mSeq (mFor (mRange2 (aC (.int 1)) (mPrim fLen [(aVar 0)])) (gN 1) b_are_ascending_1) (mSeq (mRet (aC (.bl true))) mNext))
def c_are_ascending : FD := runDef 2 m_are_ascending
def e_are_choices_1 : AE := (aVar 3)
def e_are_choices_2 : AE := (aVar 4)
def b_are_choices_3 : MS := (mSeq (mIf (mOrT (mTest (mPrim (fIn true) [(aVar 3), (aVar 2)])) (mNotT (mTest (mChain fLe fLt (aC (.int 0)) (aVar 5) (mPrim fIx [(aVar 2), (aVar 3)]))))) (mSeq (mRet (aC (.bl false))) mNext) mNext) mNext)
def m_are_choices : MS := (mSeq (mSet 2 (mDComp (mItems (aVar 0)) (gT 2 (gsCons (gN 3) (gsCons (gN 4) gsNil))) mYes e_are_choices_1 e_are_choices_2 [3, 4])) (mSeq (mFor (mItems (aVar 1)) (gT 2 (gsCons (gN 3) (gsCons (gN 5) gsNil))) b_are_choices_3) (mSeq (mRet (aC (.bl true))) mNext)))
def c_are_choices : FD := runDef 6 m_are_choices
def e_is_strategy_1 : AE := (aVar 4)
def m_is_strategy : MS := (mSeq (mIf (mNotT (mTest (mCall c_are_ascending [(mComp (mItems (aVar 3)) (gT 2 (gsCons (gN 4) (gsCons (gN 5) gsNil))) mYes e_is_strategy_1 [4, 5])]))) (mSeq (mRet (aC (.bl false))) mNext) mNext) (mSeq (mRet (mCall c_are_choices [(mCall c_choices_of_k36 [(aVar 0), (aVar 1), (aVar 2)]), (aVar 3)])) mNext))
def c_is_strategy : FD := runDef 6 m_is_strategy
def b_truthful_1 : MS := (mSeq (mIf (mTest (mPrim (fIn false) [(aVar 3), (mPrim fIx [(aVar 6), (aVar 2)])])) (mSeq (mExpr (mMeth 4 fAppend [(mTup [(aVar 5), (mCall c_branch_with_k36 [(aVar 1), (aVar 5), (aVar 3)])])])) mNext) mNext) mNext)
def m_truthful : MS := (mSeq (mSet 4 (mLst [])) (mSeq (mFor (mItems (mCall c_own_questions [(aVar 0), (aVar 1), (aVar 2)])) (gT 2 (gsCons (gN 5) (gsCons (gN 6) gsNil))) b_truthful_1) (mSeq (mRet (mPrim fTuple [(aVar 4)])) mNext)))
def c_truthful : FD := runDef 7 m_truthful
def e__law_begin_1 : AE := (mPrim fInt [(aVar 1)])
def m__law_begin : MS := (mSeq (mRet (mLst [(mComp (mItems (aVar 0)) (gN 1) mYes e__law_begin_1 [1]), (aC (.int 0)), (aC (.int 0)), (aC (.int 7))])) mNext)
def c__law_begin : FD := runDef 2 m__law_begin
def m__law_draw : MS := (mSeq (mIf (mTest (mPrim fGt [(mPrim fIx [(aVar 0), (aC (.int 2))]), (aC (.int 0))])) (mSeq (mSet 2 (mPrim fIx [(aVar 0), (aC (.int 2))])) (mSeq (mSetIx 0 (aC (.int 2)) (mPrim fDiv [(aVar 2), (aVar 1)])) (mSeq (mRet (mPrim fMod [(mPrim fInt [(aVar 2)]), (aVar 1)])) mNext))) mNext) (mSeq (mSet 3 (aC (.int 0))) (mSeq (mIf (mTest (mPrim fLt [(mPrim fIx [(aVar 0), (aC (.int 1))]), (mPrim fLen [(mPrim fIx [(aVar 0), (aC (.int 0))])])])) (mSeq (mSet 4 (mPrim fIx [(mPrim fIx [(aVar 0), (aC (.int 0))]), (mPrim fIx [(aVar 0), (aC (.int 1))])])) (mSeq (mSet 3 (mPrim fAdd [(mPrim fMul [(aC (.int 2)), (mPrim fAbs [(aVar 4)])]), (mPrim fInt [(mPrim fLt [(aVar 4), (aC (.int 0))])])])) mNext)) mNext) (mSeq (mAugIx 0 (aC (.int 1)) fIAdd (aC (.int 1))) (mSeq (mIf (mTest (mPrim fGe [(aVar 3), (mPrim fMul [(aC (.int 2)), (mPrim fPow [(aC (.int 10)), (aC (.int 18))])])])) (mSeq (mSet 2 (mPrim fMod [(mPrim fInt [(mPrim fDiv [(aVar 3), (aC (.int 2))])]), (mPrim fShl [(aC (.int 1)), (aC (.int 6000))])])) (mSeq (mSetIx 0 (aC (.int 2)) (mPrim fDiv [(aVar 2), (aVar 1)])) (mSeq (mRet (mPrim fMod [(mPrim fInt [(aVar 2)]), (aVar 1)])) mNext))) mNext) (mSeq (mSetIx 0 (aC (.int 3)) (mPrim fMod [(mPrim fInt [(mPrim fAdd [(mPrim fAdd [(mPrim fAdd [(mPrim fMul [(mPrim fIx [(aVar 0), (aC (.int 3))]), (aC (.int 48271))]), (mPrim fMul [(mPrim fMod [(mPrim fInt [(aVar 3)]), (aC (.int 2147483629))]), (aC (.int 16807))])]), (mPrim fMul [(mPrim fIx [(aVar 0), (aC (.int 1))]), (aC (.int 69621))])]), (aC (.int 11))])]), (aC (.int 2147483647))])) (mSeq (mRet (mPrim fMod [(mPrim fInt [(mPrim fDiv [(mPrim fIx [(aVar 0), (aC (.int 3))]), (aC (.int 16))])]), (aVar 1)])) mNext)))))))
def c__law_draw : FD := runDef 5 m__law_draw
def m__law_pick : MS := (mSeq (mRet (mPrim fIx [(aVar 1), (mCall c__law_draw [(aVar 0), (mPrim fLen [(aVar 1)])])])) mNext)
def c__law_pick : FD := runDef 2 m__law_pick
def m__law_rare : MS := (mSeq (mRet (mPrim fEq [(mCall c__law_draw [(aVar 0), (aVar 1)]), (mPrim fDiv [(aVar 1), (aC (.int 2))])])) mNext)
def c__law_rare : FD := runDef 2 m__law_rare
def m__law_is_int : MS := (mSeq (mRet (mAndV (mPrim (fIsi "int") [(aVar 0)]) (mNotV (mPrim (fIsi "bool") [(aVar 0)])))) mNext)
def c__law_is_int : FD := runDef 1 m__law_is_int
def e__law_is_ints_1 : AE := (mCall c__law_is_int [(aVar 1)])
def m__law_is_ints : MS := (mSeq (mRet (mAndV (mPrim (fIsi "tuple") [(aVar 0)]) (mPrim fAll [(mComp (mItems (aVar 0)) (gN 1) mYes e__law_is_ints_1 [1])]))) mNext)
def c__law_is_ints : FD := runDef 2 m__law_is_ints
def m__law_is_pair : MS := (mSeq (mRet (mAndV (mPrim (fIsi "tuple") [(aVar 0)]) (mPrim fEq [(mPrim fLen [(aVar 0)]), (aC (.int 2))]))) mNext)
def c__law_is_pair : FD := runDef 1 m__law_is_pair
def b__law_sizes_1 : MS := (mSeq (mSet 5 (mPrim fMul [(aVar 5), (aVar 6)])) mNext)
def b__law_sizes_2 : MS := (mSeq (mSet 5 (aC (.int 1))) (mSeq (mFor (mItems (aVar 4)) (gN 6) b__law_sizes_1) (mSeq (mIf (mTest (mPrim fLe [(aVar 5), (aVar 1)])) (mSeq (mExpr (mMeth 3 fAppend [(aVar 4)])) mNext) mNext) mNext)))
def m__law_sizes : MS := (mSeq (mSet 2 (mLst [(mTup [(aC (.int 2)), (aC (.int 2))]), (mTup [(aC (.int 3)), (aC (.int 2))]), (mTup [(aC (.int 2)), (aC (.int 2)), (aC (.int 2))]), (mTup [(aC (.int 2)), (aC (.int 3))]), (mTup [(aC (.int 3)), (aC (.int 3))]), (mTup [(aC (.int 1)), (aC (.int 3))]), (mTup [(aC (.int 2)), (aC (.int 1)), (aC (.int 2))]), (mTup [(aC (.int 4)), (aC (.int 2))]), (mTup [(aC (.int 3))]), (mTup [(aC (.int 2)), (aC (.int 3)), (aC (.int 2))]), (mTup [(aC (.int 1))]), (mTup [(aC (.int 2)), (aC (.int 5))])])) (mSeq (mSet 2 (mPrim fAdd [(aVar 2), (mLst [(mTup [(aC (.int 3)), (aC (.int 4))]), (mTup [(aC (.int 2)), (aC (.int 2)), (aC (.int 3))]), (mTup [(aC (.int 1)), (aC (.int 1))]), (mTup [(aC (.int 2)), (aC (.int 2)), (aC (.int 2)), (aC (.int 2))]), (mTup [(aC (.int 6)), (aC (.int 2))]), (mTup [(aC (.int 3)), (aC (.int 2)), (aC (.int 3))]), (mTup [(aC (.int 4)), (aC (.int 4))]), (mTup [(aC (.int 8)), (aC (.int 2))]), (mTup [(aC (.int 1)), (aC (.int 2)), (aC (.int 1)), (aC (.int 3))])])])) (mSeq (mSet 2 (mPrim fAdd [(aVar 2), (mLst [(mTup [(aC (.int 3)), (aC (.int 3)), (aC (.int 2))]), (mTup [(aC (.int 3)), (aC (.int 3)), (aC (.int 3))]), (mTup [(aC (.int 2)), (aC (.int 8))]), (mTup [(aC (.int 4)), (aC (.int 2)), (aC (.int 3))]), (mTup [(aC (.int 5)), (aC (.int 5))]), (mTup [(aC (.int 2)), (aC (.int 2)), (aC (.int 2)), (aC (.int 4))]), (mTup [(aC (.int 8)), (aC (.int 3))]), (mTup [(aC (.int 4)), (aC (.int 3)), (aC (.int 3))]), (mTup [(aC (.int 8)), (aC (.int 8))]), (mTup [(aC (.int 4)), (aC (.int 4)), (aC (.int 4))])])])) (mSeq (mSet 3 (mLst [])) (mSeq (mFor (mItems (aVar 2)) (gN 4) b__law_sizes_2) (mSeq (mRet (mCall c__law_pick [(aVar 0), (aVar 3)])) mNext))))))
def c__law_sizes : FD := runDef 7 m__law_sizes
def b__law_parts_1 : MS := (mSeq (mSet 4 (mCall c__law_draw [(aVar 0), (mPrim fAdd [(mPrim fLen [(aVar 2)]), (aC (.int 1))])])) (mSeq (mIf (mTest (mPrim fEq [(aVar 4), (mPrim fLen [(aVar 2)])])) (mSeq (mExpr (mApp2 2 (mLst [(aVar 3)]))) mNext) (mSeq (mExpr (mAppIx 2 (aVar 4) (aVar 3))) mNext)) mNext))
def e__law_parts_2 : AE := (mPrim fTuple [(aVar 5)])
def m__law_parts : MS := (mSeq (mSet 2 (mLst2 [(mLst [(mPrim fIx [(aVar 1), (aC (.int 0))])])])) (mSeq (mFor (mItems (mSl (aVar 1) (some (aC (.int 1))) none)) (gN 3) b__law_parts_1) (mSeq (mIf (mTest (mPrim fEq [(mPrim fLen [(aVar 2)]), (aC (.int 1))])) (mSeq (mSet 2 (mLst2 [(mLst [(mPrim fIx [(aVar 1), (aC (.int 0))])]), (mPrim fList [(mSl (aVar 1) (some (aC (.int 1))) none)])])) mNext) mNext) (mSeq (mRet (mPrim fTuple [(mComp (mItems (aVar 2)) (gN 5) mYes e__law_parts_2 [5])])) mNext))))
def c__law_parts : FD := runDef 6 m__law_parts
def m__law_narrowed : MS := (mSeq (mRet (mPrim fAdd [(mPrim fAdd [(mPrim fTuple [(mSl (aVar 0) none (some (aVar 1)))]), (mTup [(mPrim fTuple [(aVar 2)])])]), (mPrim fTuple [(mSl (aVar 0) (some (mPrim fAdd [(aVar 1), (aC (.int 1))])) none)])])) mNext)
def c__law_narrowed : FD := runDef 3 m__law_narrowed
def t__law_hearing_1 (c__law_hearing : FD) : MT := (mTest (mPrim fGt [(mPrim fLen [(mPrim fIx [(aVar 1), (aVar 4)])]), (aC (.int 1))]))
def e__law_hearing_2 (c__law_hearing : FD) : AE := (aVar 4)
def t__law_hearing_3 (c__law_hearing : FD) : MT := (mTest (mPrim (fIn true) [(aVar 6), (mPrim fIx [(aVar 5), (aC (.int 0))])]))
def e__law_hearing_4 (c__law_hearing : FD) : AE := (aVar 6)
def b__law_hearing_5 (c__law_hearing : FD) : MS := (mSeq (mExpr (mMeth 7 fAppend [(mTup [(aVar 8), (mCall c__law_hearing [(aVar 0), (mCall c__law_narrowed [(aVar 1), (aVar 4), (aVar 8)]), (mPrim fDiv [(aVar 2), (mPrim fLen [(aVar 5)])])])])])) mNext)
def m__law_hearing (c__law_hearing : FD) : MS := (mSeq (mSet 3 (mComp (mRange1 (mPrim fLen [(aVar 1)])) (gN 4) (t__law_hearing_1 c__law_hearing) (e__law_hearing_2 c__law_hearing) [4])) (mSeq (mIf (mOrT (mNotT (mTest (aVar 3))) (mOrT (mTest (mPrim fLt [(aVar 2), (aC (.int 2))])) (mTest (mPrim fEq [(mCall c__law_draw [(aVar 0), (aC (.int 8))]), (aC (.int 3))])))) (mSeq (mRet (mTup [(aC (.str "end"))])) mNext) mNext) (mSeq (mSet 4 (mCall c__law_pick [(aVar 0), (aVar 3)])) (mSeq (mSet 5 (mCall c__law_parts [(aVar 0), (mPrim fIx [(aVar 1), (aVar 4)])])) (mSeq (mIf (mTest (mPrim fGt [(mPrim fLen [(aVar 5)]), (aVar 2)])) (mSeq (mSet 5 (mTup [(mPrim fIx [(aVar 5), (aC (.int 0))]), (mPrim fTuple [(mComp (mItems (mPrim fIx [(aVar 1), (aVar 4)])) (gN 6) (t__law_hearing_3 c__law_hearing) (e__law_hearing_4 c__law_hearing) [6])])])) mNext) mNext) (mSeq (mSet 7 (mLst [])) (mSeq (mFor (mItems (aVar 5)) (gN 8) (b__law_hearing_5 c__law_hearing)) (mSeq (mRet (mTup [(aC (.str "ask")), (aVar 4), (mPrim fTuple [(aVar 7)])])) mNext))))))))
def c__law_hearing : Nat → FD
  | 0 => fun _ => .bad
  | n + 1 => runDef 9 (m__law_hearing (c__law_hearing n))
def b__law_nodes_1 : MS := (mSeq (mAsg (gT 2 (gsCons (gN 8) (gsCons (gN 9) gsNil))) (mPrim fIx [(mPrim fIx [(aVar 6), (aC (.int 2))]), (aVar 7)])) (mSeq (mExpr (mMeth 3 fAppend [(mTup [(mPrim fAdd [(aVar 4), (mTup [(aVar 7)])]), (mCall c__law_narrowed [(aVar 5), (mPrim fIx [(aVar 6), (aC (.int 1))]), (aVar 8)]), (aVar 9)])])) mNext))
def t__law_nodes_2 : MT := (mTest (aVar 3))
def b__law_nodes_3 : MS := (mSeq (mAsg (gT 3 (gsCons (gN 4) (gsCons (gN 5) (gsCons (gN 6) gsNil)))) (mMeth 3 fPop0 [])) (mSeq (mExpr (mMeth 2 fAppend [(mTup [(aVar 4), (aVar 5), (aVar 6)])])) (mSeq (mIf (mTest (mPrim fEq [(mPrim fIx [(aVar 6), (aC (.int 0))]), (aC (.str "ask"))])) (mSeq (mFor (mRange3 [(mPrim fSub [(mPrim fLen [(mPrim fIx [(aVar 6), (aC (.int 2))])]), (aC (.int 1))]), (mPrim fNeg [(aC (.int 1))]), (mPrim fNeg [(aC (.int 1))])]) (gN 7) b__law_nodes_1) mNext) mNext) mNext)))
def m__law_nodes : MS := (mSeq (mSet 2 (mLst [])) (mSeq (mSet 3 (mLst [(mTup [(mTup []), (mPrim fTuple [(aVar 0)]), (aVar 1)])])) (mSeq (mWhile 100000 t__law_nodes_2 b__law_nodes_3) (mSeq (mRet (aVar 2)) mNext))))
def c__law_nodes : FD := runDef 10 m__law_nodes
def t__law_drawn_box_1 : MT := (mTest (mPrim fGt [(mCall c__law_draw [(aVar 0), (aC (.int 3))]), (aC (.int 0))]))
def e__law_drawn_box_2 : AE := (aVar 5)
def b__law_drawn_box_3 : MS := (mSeq (mSet 4 (mPrim fTuple [(mComp (mItems (aVar 3)) (gN 5) t__law_drawn_box_1 e__law_drawn_box_2 [5])])) (mSeq (mIf (mTest (mPrim fEq [(mPrim fLen [(aVar 4)]), (aC (.int 0))])) (mSeq (mSet 4 (mTup [(mCall c__law_pick [(aVar 0), (aVar 3)])])) mNext) mNext) (mSeq (mExpr (mMeth 2 fAppend [(aVar 4)])) mNext)))
def m__law_drawn_box : MS := (mSeq (mSet 2 (mLst [])) (mSeq (mFor (mItems (aVar 1)) (gN 3) b__law_drawn_box_3) (mSeq (mRet (mPrim fTuple [(aVar 2)])) mNext)))
def c__law_drawn_box : FD := runDef 6 m__law_drawn_box
def e__law_places_1 : AE := (mTup [(mPrim fAdd [(aVar 3), (mTup [(aVar 5)])]), (mPrim fIx [(aVar 4), (aVar 5)])])
def t__law_places_2 : MT := (mTest (aVar 2))
def b__law_places_3 : MS := (mSeq (mAsg (gT 2 (gsCons (gN 3) (gsCons (gN 4) gsNil))) (mMeth 2 fPop0 [])) (mSeq (mIf (mTest (mPrim (fIsi "tuple") [(aVar 4)])) (mSeq (mExpr (mMeth 2 fExtend [(mComp (mRange1 (mPrim fLen [(aVar 4)])) (gN 5) mYes e__law_places_1 [5])])) mNext) (mSeq (mIf (mTest (mCall c__law_is_int [(aVar 4)])) (mSeq (mExpr (mMeth 1 fAppend [(aVar 3)])) mNext) mNext) mNext)) mNext))
def m__law_places : MS := (mSeq (mSet 1 (mLst [])) (mSeq (mSet 2 (mLst [(mTup [(mTup []), (aVar 0)])])) (mSeq (mWhile 100000 t__law_places_2 b__law_places_3) (mSeq (mRet (mPrim fSort [(aVar 1)])) mNext))))
def c__law_places : FD := runDef 6 m__law_places
def b__law_at_1 : MS := (mSeq (mSet 2 (mPrim fIx [(aVar 2), (aVar 3)])) mNext)
def m__law_at : MS := (mSeq (mSet 2 (aVar 0)) (mSeq (mFor (mItems (aVar 1)) (gN 3) b__law_at_1) (mSeq (mRet (aVar 2)) mNext)))
def c__law_at : FD := runDef 4 m__law_at
def m__law_put (c__law_put : FD) : MS := (mSeq (mIf (mNotT (mTest (aVar 1))) (mSeq (mRet (aVar 2)) mNext) mNext) (mSeq (mRet (mPrim fAdd [(mPrim fAdd [(mSl (aVar 0) none (some (mPrim fIx [(aVar 1), (aC (.int 0))]))), (mTup [(mCall c__law_put [(mPrim fIx [(aVar 0), (mPrim fIx [(aVar 1), (aC (.int 0))])]), (mSl (aVar 1) (some (aC (.int 1))) none), (aVar 2)])])]), (mSl (aVar 0) (some (mPrim fAdd [(mPrim fIx [(aVar 1), (aC (.int 0))]), (aC (.int 1))])) none)])) mNext))
def c__law_put : Nat → FD
  | 0 => fun _ => .bad
  | n + 1 => runDef 3 (m__law_put (c__law_put n))
def m__law_spoilt : MS := (mSeq (mSet 2 (mCall c__law_places [(aVar 1)])) (mSeq (mIf (mNotT (mTest (aVar 2))) (mSeq (mRet (aVar 1)) mNext) mNext) (mSeq (mSet 3 (mCall c__law_pick [(aVar 0), (aVar 2)])) (mSeq (mRet (mCall (c__law_put 120) [(aVar 1), (aVar 3), (mPrim fAdd [(mCall c__law_at [(aVar 1), (aVar 3)]), (mCall c__law_pick [(aVar 0), (mLst [(aC (.int 1)), (mPrim fNeg [(aC (.int 1))]), (aC (.int 2)), (aC (.int 1)), (mPrim fNeg [(aC (.int 2))])])])])])) mNext))))
def c__law_spoilt : FD := runDef 4 m__law_spoilt
def b__law_node_k36_1 : MS := (mSeq (mSet 2 (mPrim fIx [(mPrim fIx [(mPrim fIx [(aVar 2), (aC (.int 2))]), (aVar 3)]), (aC (.int 1))])) mNext)
def m__law_node_k36 : MS := (mSeq (mSet 2 (aVar 0)) (mSeq (mFor (mItems (aVar 1)) (gN 3) b__law_node_k36_1) (mSeq (mRet (aVar 2)) mNext)))
def c__law_node_k36 : FD := runDef 4 m__law_node_k36
def e__law_finest_k36_1 : AE := (mTup [(mTup [(aVar 3)]), (aVar 1)])
def b__law_finest_k36_2 : MS := (mSeq (mIf (mTest (mPrim fGt [(mPrim fLen [(mPrim fIx [(aVar 0), (aVar 2)])]), (aC (.int 1))])) (mSeq (mSet 1 (mTup [(aC (.str "ask")), (aVar 2), (mPrim fTuple [(mComp (mItems (mPrim fIx [(aVar 0), (aVar 2)])) (gN 3) mYes e__law_finest_k36_1 [3])])])) mNext) mNext) mNext)
def m__law_finest_k36 : MS := (mSeq (mSet 1 (mTup [(aC (.str "end"))])) (mSeq (mFor (mRange3 [(mPrim fSub [(mPrim fLen [(aVar 0)]), (aC (.int 1))]), (mPrim fNeg [(aC (.int 1))]), (mPrim fNeg [(aC (.int 1))])]) (gN 2) b__law_finest_k36_2) (mSeq (mRet (aVar 1)) mNext)))
def c__law_finest_k36 : FD := runDef 4 m__law_finest_k36
def b__law_own_k36_1 : MS := (mSeq (mIf (mAndT (mTest (mPrim fEq [(mPrim fIx [(aVar 6), (aC (.int 0))]), (aC (.str "ask"))])) (mTest (mPrim fEq [(mPrim fIx [(aVar 6), (aC (.int 1))]), (aVar 2)]))) (mSeq (mExpr (mMeth 3 fAppend [(mTup [(aVar 4), (mPrim fLen [(mPrim fIx [(aVar 6), (aC (.int 2))])])])])) mNext) mNext) mNext)
def m__law_own_k36 : MS := (mSeq (mSet 3 (mLst [])) (mSeq (mFor (mItems (mCall c__law_nodes [(aVar 0), (aVar 1)])) (gT 3 (gsCons (gN 4) (gsCons (gN 5) (gsCons (gN 6) gsNil)))) b__law_own_k36_1) (mSeq (mRet (aVar 3)) mNext)))
def c__law_own_k36 : FD := runDef 7 m__law_own_k36
def t__law_own_truthful_1 : MT := (mTest (mPrim (fIn false) [(aVar 3), (mPrim fIx [(mPrim fIx [(mPrim fIx [(aVar 7), (aC (.int 2))]), (aVar 8)]), (aC (.int 0))])]))
def e__law_own_truthful_2 : AE := (aVar 8)
def b__law_own_truthful_3 : MS := (mSeq (mIf (mAndT (mTest (mPrim fEq [(mPrim fIx [(aVar 7), (aC (.int 0))]), (aC (.str "ask"))])) (mAndT (mTest (mPrim fEq [(mPrim fIx [(aVar 7), (aC (.int 1))]), (aVar 2)])) (mTest (mPrim (fIn false) [(aVar 3), (mPrim fIx [(aVar 6), (aVar 2)])])))) (mSeq (mExpr (mMeth 4 fAppend [(mTup [(aVar 5), (mPrim fIx [(mComp (mRange1 (mPrim fLen [(mPrim fIx [(aVar 7), (aC (.int 2))])])) (gN 8) t__law_own_truthful_1 e__law_own_truthful_2 [8]), (aC (.int 0))])])])) mNext) mNext) mNext)
def m__law_own_truthful : MS := (mSeq (mSet 4 (mLst [])) (mSeq (mFor (mItems (mCall c__law_nodes [(aVar 0), (aVar 1)])) (gT 3 (gsCons (gN 5) (gsCons (gN 6) (gsCons (gN 7) gsNil)))) b__law_own_truthful_3) (mSeq (mRet (mPrim fTuple [(aVar 4)])) mNext)))
def c__law_own_truthful : FD := runDef 9 m__law_own_truthful
def e__law_judged_1 : AE := (aVar 3)
def b__law_judged_2 : MS := (mSeq (mIf (mOrT (mTest (mPrim (fIn true) [(aVar 3), (aVar 2)])) (mNotT (mTest (mChain fLe fLt (aC (.int 0)) (aVar 6) (mPrim fIx [(mPrim fIx [(aVar 0), (mIndex (aVar 2) (aVar 3))]), (aC (.int 1))]))))) (mSeq (mRet (aC (.bl false))) mNext) mNext) (mSeq (mIf (mAndT (mTest (mPrim fNotN [(aVar 5), (aC .non)])) (mNotT (mTest (mPrim fLtT [(aVar 5), (aVar 3)])))) (mSeq (mRet (aC (.bl false))) mNext) mNext) (mSeq (mSet 5 (aVar 3)) mNext)))
def m__law_judged : MS := (mSeq (mSet 2 (mComp (mItems (aVar 0)) (gT 2 (gsCons (gN 3) (gsCons (gN 4) gsNil))) mYes e__law_judged_1 [3, 4])) (mSeq (mSet 5 (aC .non)) (mSeq (mFor (mItems (aVar 1)) (gT 2 (gsCons (gN 3) (gsCons (gN 6) gsNil))) b__law_judged_2) (mSeq (mRet (aC (.bl true))) mNext))))
def c__law_judged : FD := runDef 7 m__law_judged
def m__law_from_behind : MS := (mSeq (mIf (mNotT (mTest (aVar 2))) (mSeq (mRet (mTup [(mPrim fNeg [(aC (.int 1))])])) mNext) mNext) (mSeq (mSet 3 (mCall c__law_draw [(aVar 0), (mPrim fLen [(aVar 2)])])) (mSeq (mSet 4 (mPrim fLen [(mPrim fIx [(mCall c__law_node_k36 [(aVar 1), (mSl (aVar 2) none (some (aVar 3)))]), (aC (.int 2))])])) (mSeq (mRet (mPrim fAdd [(mPrim fAdd [(mSl (aVar 2) none (some (aVar 3))), (mTup [(mPrim fSub [(mPrim fIx [(aVar 2), (aVar 3)]), (aVar 4)])])]), (mSl (aVar 2) (some (mPrim fAdd [(aVar 3), (aC (.int 1))])) none)])) mNext))))
def c__law_from_behind : FD := runDef 5 m__law_from_behind
def m__law_near_one : MS := (mSeq (mSet 4 (mLst [(mTup [(mTup [(aVar 2), (aVar 3)])]), (mTup [(mTup [(aVar 2), (mPrim fSub [(aVar 3), (aC (.int 1))])])]), (mTup [(mTup [(aVar 2), (mPrim fNeg [(aC (.int 1))])])]), (mTup [(mTup [(aVar 2), (mPrim fPow [(aC (.int 10)), (aC (.int 18))])])]), (mTup [(mTup [(aVar 2), (mPrim fSub [(aC (.int 0)), (aVar 3)])])])])) (mSeq (mExpr (mMeth 4 fAppend [(mTup [(mTup [(aVar 2), (aC (.int 0))]), (mTup [(aVar 2), (aC (.int 1))])])])) (mSeq (mExpr (mMeth 4 fAppend [(mTup [(mTup [(aVar 2), (mPrim fSub [(aVar 3), (aC (.int 1))])]), (mTup [(aVar 2), (mPrim fSub [(aVar 3), (aC (.int 1))])])])])) (mSeq (mExpr (mMeth 4 fAppend [(mTup [(mTup [(mPrim fAdd [(aVar 2), (mTup [(aC (.int 0))])]), (aC (.int 0))])])])) (mSeq (mExpr (mMeth 4 fAppend [(mTup [(mTup [(mPrim fAdd [(aVar 2), (mTup [(aVar 3)])]), (aC (.int 0))])])])) (mSeq (mExpr (mMeth 4 fAppend [(mTup [(mTup [(mSl (aVar 2) none (some (mPrim fNeg [(aC (.int 1))]))), (aC (.int 0))])])])) (mSeq (mExpr (mMeth 4 fAppend [(mTup [(mTup [(mCall c__law_from_behind [(aVar 0), (aVar 1), (aVar 2)]), (aC (.int 0))])])])) (mSeq (mExpr (mMeth 4 fAppend [(mTup [(mTup [(aVar 2), (aC (.int 1))]), (mTup [(mPrim fAdd [(aVar 2), (mTup [(mPrim fPow [(aC (.int 10)), (aC (.int 18))])])]), (aC (.int 0))])])])) (mSeq (mRet (aVar 4)) mNext)))))))))
def c__law_near_one : FD := runDef 5 m__law_near_one
def e__law_near_k36_1 : AE := (mCall c__law_spoilt [(aVar 0), (aVar 4)])
def m__law_near_k36 : MS := (mSeq (mSet 5 (mCall c__law_pick [(aVar 0), (aVar 3)])) (mSeq (mSet 6 (mLst [(mTup []), (aVar 4), (mPrim fAdd [(aVar 4), (mTup [(mTup [(aVar 5), (aC (.int 0))])])]), (mTup [(mTup [(mTup [(mPrim fPow [(aC (.int 10)), (aC (.int 18))])]), (aC (.int 0))])]), (mTup [(mTup [(mTup [(mPrim fNeg [(mPrim fPow [(aC (.int 10)), (aC (.int 18))])])]), (aC (.int 0))])])])) (mSeq (mExpr (mMeth 6 fAppend [(mPrim fTuple [(mPrim fSortKT [(mPrim fAdd [(aVar 4), (mTup [(mTup [(aVar 5), (mCall c__law_draw [(aVar 0), (aC (.int 3))])])])])])])])) (mSeq (mIf (mTest (aVar 2)) (mSeq (mAsg (gT 2 (gsCons (gN 7) (gsCons (gN 8) gsNil))) (mCall c__law_pick [(aVar 0), (aVar 2)])) (mSeq (mExpr (mMeth 6 fExtend [(mCall c__law_near_one [(aVar 0), (aVar 1), (aVar 7), (aVar 8)])])) (mSeq (mExpr (mMeth 6 fAppend [(mPrim fTuple [(mPrim fSortKT [(mPrim fAdd [(aVar 4), (mTup [(mTup [(mCall c__law_from_behind [(aVar 0), (aVar 1), (aVar 7)]), (aC (.int 0))])])])])])])) mNext))) mNext) (mSeq (mIf (mTest (mPrim fGt [(mPrim fLen [(aVar 4)]), (aC (.int 0))])) (mSeq (mSet 9 (mCall c__law_draw [(aVar 0), (mPrim fLen [(aVar 4)])])) (mSeq (mExpr (mMeth 6 fAppend [(mPrim fAdd [(mSl (aVar 4) none (some (aVar 9))), (mSl (aVar 4) (some (mPrim fAdd [(aVar 9), (aC (.int 1))])) none)])])) (mSeq (mExpr (mMeth 6 fAppend [(mPrim fAdd [(mSl (aVar 4) none (some (mPrim fAdd [(aVar 9), (aC (.int 1))]))), (mSl (aVar 4) (some (aVar 9)) none)])])) (mSeq (mExpr (mMeth 6 fAppend [(mPrim fAdd [(aVar 4), (mTup [(mPrim fIx [(aVar 4), (aVar 9)])])])])) (mSeq (mExpr (mMeth 6 fAppend [(mPrim fAdd [(mPrim fAdd [(mSl (aVar 4) none (some (aVar 9))), (mTup [(mTup [(mPrim fIx [(mPrim fIx [(aVar 4), (aVar 9)]), (aC (.int 0))]), (mPrim fAdd [(mPrim fIx [(mPrim fIx [(aVar 4), (aVar 9)]), (aC (.int 1))]), (aC (.int 1))])])])]), (mSl (aVar 4) (some (mPrim fAdd [(aVar 9), (aC (.int 1))])) none)])])) mNext))))) mNext) (mSeq (mIf (mTest (mPrim fGt [(mPrim fLen [(aVar 4)]), (aC (.int 1))])) (mSeq (mSet 9 (mCall c__law_draw [(aVar 0), (mPrim fSub [(mPrim fLen [(aVar 4)]), (aC (.int 1))])])) (mSeq (mExpr (mMeth 6 fAppend [(mPrim fAdd [(mPrim fAdd [(mSl (aVar 4) none (some (aVar 9))), (mTup [(mPrim fIx [(aVar 4), (mPrim fAdd [(aVar 9), (aC (.int 1))])]), (mPrim fIx [(aVar 4), (aVar 9)])])]), (mSl (aVar 4) (some (mPrim fAdd [(aVar 9), (aC (.int 2))])) none)])])) (mSeq (mExpr (mMeth 6 fAppend [(mPrim fAdd [(mPrim fAdd [(mTup [(mPrim fIx [(aVar 4), (mPrim fNeg [(aC (.int 1))])])]), (mSl (aVar 4) (some (aC (.int 1))) (some (mPrim fNeg [(aC (.int 1))])))]), (mTup [(mPrim fIx [(aVar 4), (aC (.int 0))])])])])) (mSeq (mExpr (mMeth 6 fAppend [(mPrim fAdd [(mPrim fAdd [(mSl (aVar 4) none (some (aVar 9))), (mTup [(mTup [(mPrim fIx [(mPrim fIx [(aVar 4), (aVar 9)]), (aC (.int 0))]), (mPrim fIx [(mPrim fIx [(aVar 4), (mPrim fAdd [(aVar 9), (aC (.int 1))])]), (aC (.int 1))])]), (mTup [(mPrim fIx [(mPrim fIx [(aVar 4), (mPrim fAdd [(aVar 9), (aC (.int 1))])]), (aC (.int 0))]), (mPrim fIx [(mPrim fIx [(aVar 4), (aVar 9)]), (aC (.int 1))])])])]), (mSl (aVar 4) (some (mPrim fAdd [(aVar 9), (aC (.int 2))])) none)])])) mNext)))) mNext) (mSeq (mExpr (mMeth 6 fExtend [(mComp (mRange1 (aC (.int 4))) (gN 9) mYes e__law_near_k36_1 [9])])) (mSeq (mRet (aVar 6)) mNext))))))))
def c__law_near_k36 : FD := runDef 10 m__law_near_k36
def b__law_asked_k36_1 : MS := (mSeq (mSet 6 (mCall c_is_strategy [(aVar 0), (aVar 1), (aVar 2), (aVar 5)])) (mSeq (mIf (mOrT (mNotT (mTest (mPrim (fIsi "bool") [(aVar 6)]))) (mTest (mPrim fNe [(aVar 6), (mCall c__law_judged [(aVar 3), (aVar 5)])]))) (mSeq (mRet (aC (.bl false))) mNext) mNext) mNext))
def m__law_asked_k36 : MS := (mSeq (mFor (mItems (aVar 4)) (gN 5) b__law_asked_k36_1) (mSeq (mRet (aC (.bl true))) mNext))
def c__law_asked_k36 : FD := runDef 7 m__law_asked_k36
def e__law_are_truthful_1 : AE := (mCall c__law_is_pair [(aVar 5)])
def e__law_are_truthful_2 : AE := (mAndV (mCall c__law_is_ints [(mPrim fIx [(aVar 5), (aC (.int 0))])]) (mCall c__law_is_int [(mPrim fIx [(aVar 5), (aC (.int 1))])]))
def b__law_are_truthful_3 : MS := (mSeq (mSet 4 (mCall c_truthful [(aVar 0), (aVar 1), (aVar 2), (aVar 3)])) (mSeq (mIf (mOrT (mNotT (mTest (mPrim (fIsi "tuple") [(aVar 4)]))) (mNotT (mTest (mPrim fAll [(mComp (mItems (aVar 4)) (gN 5) mYes e__law_are_truthful_1 [5])])))) (mSeq (mRet (aC (.bl false))) mNext) mNext) (mSeq (mIf (mNotT (mTest (mPrim fAll [(mComp (mItems (aVar 4)) (gN 5) mYes e__law_are_truthful_2 [5])]))) (mSeq (mRet (aC (.bl false))) mNext) mNext) (mSeq (mIf (mTest (mPrim fNe [(aVar 4), (mCall c__law_own_truthful [(aVar 0), (aVar 1), (aVar 2), (aVar 3)])])) (mSeq (mRet (aC (.bl false))) mNext) mNext) mNext))))
def m__law_are_truthful : MS := (mSeq (mFor (mItems (mPrim fIx [(aVar 0), (aVar 2)])) (gN 3) b__law_are_truthful_3) (mSeq (mRet (aC (.bl true))) mNext))
def c__law_are_truthful : FD := runDef 6 m__law_are_truthful
def b__law_drawn_pairs_1 : MS := (mSeq (mIf (mTest (mPrim fGt [(mCall c__law_draw [(aVar 0), (aC (.int 4))]), (aC (.int 0))])) (mSeq (mExpr (mMeth 2 fAppend [(mTup [(aVar 3), (mCall c__law_draw [(aVar 0), (aVar 4)])])])) mNext) mNext) mNext)
def m__law_drawn_pairs : MS := (mSeq (mSet 2 (mLst [])) (mSeq (mFor (mItems (aVar 1)) (gT 2 (gsCons (gN 3) (gsCons (gN 4) gsNil))) b__law_drawn_pairs_1) (mSeq (mRet (mPrim fTuple [(aVar 2)])) mNext)))
def c__law_drawn_pairs : FD := runDef 5 m__law_drawn_pairs
def e__law_world_k36_1 : AE := (mTupRg (mRg1 (aVar 2)))
def e__law_world_k36_2 : AE := (mTupRg (mRg1 (aVar 2)))
def m__law_world_k36 : MS := (mSeq (mIf (mTest (mCall c__law_rare [(aVar 0), (aC (.int 32))])) (mSeq (mSet 1 (mPrim fTuple [(mComp (mItems (mCall c__law_pick [(aVar 0), (mLst [(mTup [(aC (.int 4)), (aC (.int 4)), (aC (.int 4)), (aC (.int 4))]), (mTup [(aC (.int 8)), (aC (.int 8)), (aC (.int 4))]), (mTup [(aC (.int 8)), (aC (.int 4)), (aC (.int 2)), (aC (.int 4))]), (mTup [(aC (.int 2)), (aC (.int 8)), (aC (.int 8))])])])) (gN 2) mYes e__law_world_k36_1 [2])])) (mSeq (mRet (mTup [(aVar 1), (mCall c__law_finest_k36 [(aVar 1)]), (mCall (c__law_hearing 30) [(aVar 0), (aVar 1), (aC (.int 40))])])) mNext)) mNext) (mSeq (mSet 1 (mPrim fTuple [(mComp (mItems (mCall c__law_sizes [(aVar 0), (aC (.int 64))])) (gN 2) mYes e__law_world_k36_2 [2])])) (mSeq (mIf (mTest (mPrim fEq [(mCall c__law_draw [(aVar 0), (aC (.int 2))]), (aC (.int 1))])) (mSeq (mSet 1 (mCall c__law_drawn_box [(aVar 0), (aVar 1)])) mNext) mNext) (mSeq (mSet 2 (mCall c__law_pick [(aVar 0), (mLst [(aC (.int 12)), (aC (.int 40)), (aC (.int 12)), (aC (.int 100))])])) (mSeq (mRet (mTup [(aVar 1), (mCall (c__law_hearing 30) [(aVar 0), (aVar 1), (aVar 2)]), (mCall (c__law_hearing 30) [(aVar 0), (aVar 1), (aC (.int 12))])])) mNext)))))
def c__law_world_k36 : FD := runDef 3 m__law_world_k36
def e_law_k36_1 : AE := (aVar 6)
def e_law_k36_2 : AE := (mTup [(aVar 6), (mPrim fSub [(aVar 14), (aC (.int 1))])])
def b_law_k36_3 : MS := (mSeq (mSet 11 (mCall c__law_own_k36 [(aVar 2), (aVar 3), (aVar 10)])) (mSeq (mSet 12 (mCall c__law_own_k36 [(aVar 2), (aVar 4), (aVar 10)])) (mSeq (mSet 13 (mLst [(mPrim fTuple [(mComp (mItems (aVar 11)) (gT 2 (gsCons (gN 6) (gsCons (gN 14) gsNil))) mYes e_law_k36_2 [6, 14])]), (mCall c__law_drawn_pairs [(aVar 1), (aVar 11)])])) (mSeq (mExpr (mMeth 13 fAppend [(mCall c__law_own_truthful [(aVar 2), (aVar 3), (aVar 10), (mCall c__law_pick [(aVar 1), (mPrim fIx [(aVar 2), (aVar 10)])])])])) (mSeq (mSet 15 (mPrim fAdd [(mPrim fAdd [(mCall c__law_near_k36 [(aVar 1), (aVar 3), (aVar 11), (aVar 5), (mCall c__law_pick [(aVar 1), (aVar 13)])]), (aVar 13)]), (mLst [(mCall c__law_drawn_pairs [(aVar 1), (aVar 12)])])])) (mSeq (mSet 16 (mCall c__law_draw [(aVar 1), (mPrim fLen [(aVar 2)])])) (mSeq (mExpr (mMeth 15 fAppend [(mCall c__law_drawn_pairs [(aVar 1), (mCall c__law_own_k36 [(aVar 2), (aVar 3), (aVar 16)])])])) (mSeq (mIf (mOrT (mNotT (mTest (mCall c__law_asked_k36 [(aVar 2), (aVar 3), (aVar 10), (aVar 11), (aVar 15)]))) (mNotT (mTest (mCall c__law_are_truthful [(aVar 2), (aVar 3), (aVar 10)])))) (mSeq (mRet (aC (.bl false))) mNext) mNext) (mSeq (mIf (mNotT (mTest (mCall c__law_asked_k36 [(aVar 2), (aVar 4), (aVar 10), (aVar 12), (mPrim fAdd [(aVar 13), (mLst [(mPrim fIx [(aVar 15), (mPrim fNeg [(aC (.int 2))])])])])]))) (mSeq (mRet (aC (.bl false))) mNext) mNext) (mSeq (mIf (mOrT (mNotT (mTest (mCall c__law_are_truthful [(aVar 2), (aVar 4), (aVar 10)]))) (mNotT (mTest (mCall c__law_asked_k36 [(aVar 2), (aVar 3), (aVar 10), (aVar 11), (aVar 13)])))) (mSeq (mRet (aC (.bl false))) mNext) mNext) mNext))))))))))
def m_law_k36 : MS := (mSeq (mSet 1 (mCall c__law_begin [(aVar 0)])) (mSeq (mAsg (gT 3 (gsCons (gN 2) (gsCons (gN 3) (gsCons (gN 4) gsNil)))) (mCall c__law_world_k36 [(aVar 1)])) (mSeq (mSet 5 (mComp (mItems (mCall c__law_nodes [(aVar 2), (aVar 3)])) (gT 3 (gsCons (gN 6) (gsCons (gN 7) (gsCons (gN 8) gsNil)))) mYes e_law_k36_1 [6, 7, 8])) (mSeq (mSet 9 (mListRg (mRg1 (mPrim fLen [(aVar 2)])))) (mSeq (mIf (mTest (mPrim fGt [(mPrim fLen [(aVar 5)]), (aC (.int 25))])) (mSeq (mSet 9 (mLst [(mCall c__law_pick [(aVar 1), (aVar 9)])])) mNext) mNext) (mSeq (mFor (mItems (aVar 9)) (gN 10) b_law_k36_3) (mSeq (mRet (aC (.bl true))) mNext)))))))
def c_law_k36 : FD := runDef 17 m_law_k36
def b__law_shuffled_1 : MS := (mSeq (mExpr (mMeth 3 fAppend [(mMeth 2 fPop1 [(mCall c__law_draw [(aVar 0), (mPrim fLen [(aVar 2)])])])])) mNext)
def m__law_shuffled : MS := (mSeq (mSet 2 (mPrim fList [(aVar 1)])) (mSeq (mSet 3 (mLst [])) (mSeq (mFor (mRange1 (mPrim fLen [(aVar 2)])) (gN 4) b__law_shuffled_1) (mSeq (mRet (aVar 3)) mNext))))
def c__law_shuffled : FD := runDef 5 m__law_shuffled
def e_combined_1 : AE := (mPrim fAdd [(aVar 3), (mTup [(aVar 4)])])
def b_combined_2 : MS := (mSeq (mSet 1 (mComp2 (mItems (aVar 1)) (gN 3) mYes (mItems (aVar 2)) (gN 4) mYes e_combined_1 [3, 4] [4])) mNext)
def m_combined : MS := (mSeq (mSet 1 (mLst [(mTup [])])) (mSeq (mFor (mItems (aVar 0)) (gN 2) b_combined_2) (mSeq (mRet (mPrim fTuple [(aVar 1)])) mNext)))
def c_combined : FD := runDef 5 m_combined
def m_rows_of : MS := (mSeq (mRet (mCall c_combined [(aVar 0)])) mNext)
def c_rows_of : FD := runDef 1 m_rows_of
def t_leaves_of_1 : MT := (mTest (mCall c_is_leaf [(aVar 4)]))
def e_leaves_of_2 : AE := (mTup [(aVar 2), (aVar 3)])
def m_leaves_of : MS := (mSeq (mRet (mPrim fTuple [(mComp (mItems (mCall (c_nodes_from 30) [(mTup []), (aVar 0), (aVar 1)])) (gT 3 (gsCons (gN 2) (gsCons (gN 3) (gsCons (gN 4) gsNil)))) t_leaves_of_1 e_leaves_of_2 [2, 3, 4])])) mNext)
def c_leaves_of : FD := runDef 5 m_leaves_of
def m_person_count : MS := (mSeq (mRet (mPrim fLen [(mPrim fIx [(aVar 0), (aC (.int 1))])])) mNext)
def c_person_count : FD := runDef 1 m_person_count
def m_worths_of_k86 : MS := (mSeq (mRet (mPrim fIx [(mPrim fIx [(mPrim fIx [(aVar 0), (aC (.int 1))]), (aVar 1)]), (aC (.int 2))])) mNext)
def c_worths_of_k86 : FD := runDef 2 m_worths_of_k86
def b_table_place_1 : MS := (mSeq (mSet 2 (mPrim fAdd [(mPrim fMul [(aVar 2), (mPrim fLen [(mCall c_worths_of_k86 [(aVar 0), (aVar 3)])])]), (mPrim fIx [(aVar 1), (aVar 3)])])) mNext)
def m_table_place : MS := (mSeq (mSet 2 (aC (.int 0))) (mSeq (mFor (mRange1 (mCall c_person_count [(aVar 0)])) (gN 3) b_table_place_1) (mSeq (mRet (aVar 2)) mNext)))
def c_table_place : FD := runDef 4 m_table_place
def m_winners_at : MS := (mSeq (mRet (mPrim fIx [(mPrim fIx [(aVar 0), (aC (.int 2))]), (mCall c_table_place [(aVar 0), (aVar 1)])])) mNext)
def c_winners_at : FD := runDef 2 m_winners_at
end S

namespace P_k36
open Z PySem PySem.Spec PyProof.Rows L2 S
def top (i : Nat) : Stmt := PySem.Challenge.pw_plainhearing_k36_strategies_judged.main.body.getD i (.Pass ⟨0, 0, 0, 0⟩)
structure Fx (K : PySem.W.Frag) (mg : Str → Option Value) where
  a_narrowed : Addr
  d_narrowed : FuncData
  F_narrowed : FunD K "narrowed" "narrowed" (defArgs (top 1)) (defBody (top 1)) (defScope (top 1)) [] [] a_narrowed d_narrowed
  g_narrowed : mg "narrowed" = some (.ref a_narrowed)
  b_narrowed : Binds K d_narrowed ["box", "person", "kinds"] []
  a_is_leaf : Addr
  d_is_leaf : FuncData
  F_is_leaf : FunD K "is_leaf" "is_leaf" (defArgs (top 3)) (defBody (top 3)) (defScope (top 3)) [] [] a_is_leaf d_is_leaf
  g_is_leaf : mg "is_leaf" = some (.ref a_is_leaf)
  b_is_leaf : Binds K d_is_leaf ["hearing"] []
  a_nodes_from : Addr
  d_nodes_from : FuncData
  F_nodes_from : FunD K "nodes_from" "nodes_from" (defArgs (top 4)) (defBody (top 4)) (defScope (top 4)) [] [] a_nodes_from d_nodes_from
  g_nodes_from : mg "nodes_from" = some (.ref a_nodes_from)
  b_nodes_from : Binds K d_nodes_from ["path", "box", "hearing"] []
  a_questions_of : Addr
  d_questions_of : FuncData
  F_questions_of : FunD K "questions_of" "questions_of" (defArgs (top 5)) (defBody (top 5)) (defScope (top 5)) [] [] a_questions_of d_questions_of
  g_questions_of : mg "questions_of" = some (.ref a_questions_of)
  b_questions_of : Binds K d_questions_of ["box", "hearing"] []
  a_node_at : Addr
  d_node_at : FuncData
  F_node_at : FunD K "node_at" "node_at" (defArgs (top 7)) (defBody (top 7)) (defScope (top 7)) [] [] a_node_at d_node_at
  g_node_at : mg "node_at" = some (.ref a_node_at)
  b_node_at : Binds K d_node_at ["hearing", "path"] []
  a_branches_at : Addr
  d_branches_at : FuncData
  F_branches_at : FunD K "branches_at" "branches_at" (defArgs (top 8)) (defBody (top 8)) (defScope (top 8)) [] [] a_branches_at d_branches_at
  g_branches_at : mg "branches_at" = some (.ref a_branches_at)
  b_branches_at : Binds K d_branches_at ["hearing", "path"] []
  a_kinds_at : Addr
  d_kinds_at : FuncData
  F_kinds_at : FunD K "kinds_at" "kinds_at" (defArgs (top 9)) (defBody (top 9)) (defScope (top 9)) [] [] a_kinds_at d_kinds_at
  g_kinds_at : mg "kinds_at" = some (.ref a_kinds_at)
  b_kinds_at : Binds K d_kinds_at ["hearing", "path", "branch"] []
  a_branch_with : Addr
  d_branch_with : FuncData
  F_branch_with : FunD K "branch_with" "branch_with" (defArgs (top 10)) (defBody (top 10)) (defScope (top 10)) [] [] a_branch_with d_branch_with
  g_branch_with : mg "branch_with" = some (.ref a_branch_with)
  b_branch_with : Binds K d_branch_with ["hearing", "path", "kind"] []
  a_own_questions : Addr
  d_own_questions : FuncData
  F_own_questions : FunD K "own_questions" "own_questions" (defArgs (top 11)) (defBody (top 11)) (defScope (top 11)) [] [] a_own_questions d_own_questions
  g_own_questions : mg "own_questions" = some (.ref a_own_questions)
  b_own_questions : Binds K d_own_questions ["box", "hearing", "person"] []
  a_choices_of : Addr
  d_choices_of : FuncData
  F_choices_of : FunD K "choices_of" "choices_of" (defArgs (top 12)) (defBody (top 12)) (defScope (top 12)) [] [] a_choices_of d_choices_of
  g_choices_of : mg "choices_of" = some (.ref a_choices_of)
  b_choices_of : Binds K d_choices_of ["box", "hearing", "person"] []
  a_are_ascending : Addr
  d_are_ascending : FuncData
  F_are_ascending : FunD K "are_ascending" "are_ascending" (defArgs (top 14)) (defBody (top 14)) (defScope (top 14)) [] [] a_are_ascending d_are_ascending
  g_are_ascending : mg "are_ascending" = some (.ref a_are_ascending)
  b_are_ascending : Binds K d_are_ascending ["paths"] []
  a_are_choices : Addr
  d_are_choices : FuncData
  F_are_choices : FunD K "are_choices" "are_choices" (defArgs (top 15)) (defBody (top 15)) (defScope (top 15)) [] [] a_are_choices d_are_choices
  g_are_choices : mg "are_choices" = some (.ref a_are_choices)
  b_are_choices : Binds K d_are_choices ["choices", "strategy"] []
  a_is_strategy : Addr
  d_is_strategy : FuncData
  F_is_strategy : FunD K "is_strategy" "is_strategy" (defArgs (top 16)) (defBody (top 16)) (defScope (top 16)) [] [] a_is_strategy d_is_strategy
  g_is_strategy : mg "is_strategy" = some (.ref a_is_strategy)
  b_is_strategy : Binds K d_is_strategy ["box", "hearing", "person", "strategy"] []
  a_truthful : Addr
  d_truthful : FuncData
  F_truthful : FunD K "truthful" "truthful" (defArgs (top 17)) (defBody (top 17)) (defScope (top 17)) [] [] a_truthful d_truthful
  g_truthful : mg "truthful" = some (.ref a_truthful)
  b_truthful : Binds K d_truthful ["box", "hearing", "person", "kind"] []
  a__law_begin : Addr
  d__law_begin : FuncData
  F__law_begin : FunD K "_law_begin" "_law_begin" (defArgs (top 19)) (defBody (top 19)) (defScope (top 19)) [] [] a__law_begin d__law_begin
  g__law_begin : mg "_law_begin" = some (.ref a__law_begin)
  b__law_begin : Binds K d__law_begin ["script"] []
  a__law_draw : Addr
  d__law_draw : FuncData
  F__law_draw : FunD K "_law_draw" "_law_draw" (defArgs (top 20)) (defBody (top 20)) (defScope (top 20)) [] [] a__law_draw d__law_draw
  g__law_draw : mg "_law_draw" = some (.ref a__law_draw)
  b__law_draw : Binds K d__law_draw ["d", "many"] []
  a__law_pick : Addr
  d__law_pick : FuncData
  F__law_pick : FunD K "_law_pick" "_law_pick" (defArgs (top 21)) (defBody (top 21)) (defScope (top 21)) [] [] a__law_pick d__law_pick
  g__law_pick : mg "_law_pick" = some (.ref a__law_pick)
  b__law_pick : Binds K d__law_pick ["d", "row"] []
  a__law_rare : Addr
  d__law_rare : FuncData
  F__law_rare : FunD K "_law_rare" "_law_rare" (defArgs (top 22)) (defBody (top 22)) (defScope (top 22)) [] [] a__law_rare d__law_rare
  g__law_rare : mg "_law_rare" = some (.ref a__law_rare)
  b__law_rare : Binds K d__law_rare ["d", "many"] []
  a__law_is_int : Addr
  d__law_is_int : FuncData
  F__law_is_int : FunD K "_law_is_int" "_law_is_int" (defArgs (top 23)) (defBody (top 23)) (defScope (top 23)) [] [] a__law_is_int d__law_is_int
  g__law_is_int : mg "_law_is_int" = some (.ref a__law_is_int)
  b__law_is_int : Binds K d__law_is_int ["thing"] []
  a__law_is_ints : Addr
  d__law_is_ints : FuncData
  F__law_is_ints : FunD K "_law_is_ints" "_law_is_ints" (defArgs (top 24)) (defBody (top 24)) (defScope (top 24)) [] [] a__law_is_ints d__law_is_ints
  g__law_is_ints : mg "_law_is_ints" = some (.ref a__law_is_ints)
  b__law_is_ints : Binds K d__law_is_ints ["row"] []
  a__law_is_pair : Addr
  d__law_is_pair : FuncData
  F__law_is_pair : FunD K "_law_is_pair" "_law_is_pair" (defArgs (top 25)) (defBody (top 25)) (defScope (top 25)) [] [] a__law_is_pair d__law_is_pair
  g__law_is_pair : mg "_law_is_pair" = some (.ref a__law_is_pair)
  b__law_is_pair : Binds K d__law_is_pair ["thing"] []
  a__law_sizes : Addr
  d__law_sizes : FuncData
  F__law_sizes : FunD K "_law_sizes" "_law_sizes" (defArgs (top 26)) (defBody (top 26)) (defScope (top 26)) [] [] a__law_sizes d__law_sizes
  g__law_sizes : mg "_law_sizes" = some (.ref a__law_sizes)
  b__law_sizes : Binds K d__law_sizes ["d", "limit"] []
  a__law_parts : Addr
  d__law_parts : FuncData
  F__law_parts : FunD K "_law_parts" "_law_parts" (defArgs (top 27)) (defBody (top 27)) (defScope (top 27)) [] [] a__law_parts d__law_parts
  g__law_parts : mg "_law_parts" = some (.ref a__law_parts)
  b__law_parts : Binds K d__law_parts ["d", "kinds"] []
  a__law_narrowed : Addr
  d__law_narrowed : FuncData
  F__law_narrowed : FunD K "_law_narrowed" "_law_narrowed" (defArgs (top 28)) (defBody (top 28)) (defScope (top 28)) [] [] a__law_narrowed d__law_narrowed
  g__law_narrowed : mg "_law_narrowed" = some (.ref a__law_narrowed)
  b__law_narrowed : Binds K d__law_narrowed ["box", "person", "kinds"] []
  a__law_hearing : Addr
  d__law_hearing : FuncData
  F__law_hearing : FunD K "_law_hearing" "_law_hearing" (defArgs (top 29)) (defBody (top 29)) (defScope (top 29)) [] [] a__law_hearing d__law_hearing
  g__law_hearing : mg "_law_hearing" = some (.ref a__law_hearing)
  b__law_hearing : Binds K d__law_hearing ["d", "box", "many"] []
  a__law_nodes : Addr
  d__law_nodes : FuncData
  F__law_nodes : FunD K "_law_nodes" "_law_nodes" (defArgs (top 30)) (defBody (top 30)) (defScope (top 30)) [] [] a__law_nodes d__law_nodes
  g__law_nodes : mg "_law_nodes" = some (.ref a__law_nodes)
  b__law_nodes : Binds K d__law_nodes ["box", "hearing"] []
  a__law_drawn_box : Addr
  d__law_drawn_box : FuncData
  F__law_drawn_box : FunD K "_law_drawn_box" "_law_drawn_box" (defArgs (top 31)) (defBody (top 31)) (defScope (top 31)) [] [] a__law_drawn_box d__law_drawn_box
  g__law_drawn_box : mg "_law_drawn_box" = some (.ref a__law_drawn_box)
  b__law_drawn_box : Binds K d__law_drawn_box ["d", "box"] []
  a__law_places : Addr
  d__law_places : FuncData
  F__law_places : FunD K "_law_places" "_law_places" (defArgs (top 32)) (defBody (top 32)) (defScope (top 32)) [] [] a__law_places d__law_places
  g__law_places : mg "_law_places" = some (.ref a__law_places)
  b__law_places : Binds K d__law_places ["thing"] []
  a__law_at : Addr
  d__law_at : FuncData
  F__law_at : FunD K "_law_at" "_law_at" (defArgs (top 33)) (defBody (top 33)) (defScope (top 33)) [] [] a__law_at d__law_at
  g__law_at : mg "_law_at" = some (.ref a__law_at)
  b__law_at : Binds K d__law_at ["thing", "path"] []
  a__law_put : Addr
  d__law_put : FuncData
  F__law_put : FunD K "_law_put" "_law_put" (defArgs (top 34)) (defBody (top 34)) (defScope (top 34)) [] [] a__law_put d__law_put
  g__law_put : mg "_law_put" = some (.ref a__law_put)
  b__law_put : Binds K d__law_put ["thing", "path", "new"] []
  a__law_spoilt : Addr
  d__law_spoilt : FuncData
  F__law_spoilt : FunD K "_law_spoilt" "_law_spoilt" (defArgs (top 35)) (defBody (top 35)) (defScope (top 35)) [] [] a__law_spoilt d__law_spoilt
  g__law_spoilt : mg "_law_spoilt" = some (.ref a__law_spoilt)
  b__law_spoilt : Binds K d__law_spoilt ["d", "thing"] []
  a__law_node : Addr
  d__law_node : FuncData
  F__law_node : FunD K "_law_node" "_law_node" (defArgs (top 36)) (defBody (top 36)) (defScope (top 36)) [] [] a__law_node d__law_node
  g__law_node : mg "_law_node" = some (.ref a__law_node)
  b__law_node : Binds K d__law_node ["hearing", "path"] []
  a__law_finest : Addr
  d__law_finest : FuncData
  F__law_finest : FunD K "_law_finest" "_law_finest" (defArgs (top 37)) (defBody (top 37)) (defScope (top 37)) [] [] a__law_finest d__law_finest
  g__law_finest : mg "_law_finest" = some (.ref a__law_finest)
  b__law_finest : Binds K d__law_finest ["box"] []
  a__law_own : Addr
  d__law_own : FuncData
  F__law_own : FunD K "_law_own" "_law_own" (defArgs (top 38)) (defBody (top 38)) (defScope (top 38)) [] [] a__law_own d__law_own
  g__law_own : mg "_law_own" = some (.ref a__law_own)
  b__law_own : Binds K d__law_own ["box", "hearing", "person"] []
  a__law_own_truthful : Addr
  d__law_own_truthful : FuncData
  F__law_own_truthful : FunD K "_law_own_truthful" "_law_own_truthful" (defArgs (top 39)) (defBody (top 39)) (defScope (top 39)) [] [] a__law_own_truthful d__law_own_truthful
  g__law_own_truthful : mg "_law_own_truthful" = some (.ref a__law_own_truthful)
  b__law_own_truthful : Binds K d__law_own_truthful ["box", "hearing", "person", "kind"] []
  a__law_judged : Addr
  d__law_judged : FuncData
  F__law_judged : FunD K "_law_judged" "_law_judged" (defArgs (top 40)) (defBody (top 40)) (defScope (top 40)) [] [] a__law_judged d__law_judged
  g__law_judged : mg "_law_judged" = some (.ref a__law_judged)
  b__law_judged : Binds K d__law_judged ["own", "thing"] []
  a__law_from_behind : Addr
  d__law_from_behind : FuncData
  F__law_from_behind : FunD K "_law_from_behind" "_law_from_behind" (defArgs (top 41)) (defBody (top 41)) (defScope (top 41)) [] [] a__law_from_behind d__law_from_behind
  g__law_from_behind : mg "_law_from_behind" = some (.ref a__law_from_behind)
  b__law_from_behind : Binds K d__law_from_behind ["d", "hearing", "path"] []
  a__law_near_one : Addr
  d__law_near_one : FuncData
  F__law_near_one : FunD K "_law_near_one" "_law_near_one" (defArgs (top 42)) (defBody (top 42)) (defScope (top 42)) [] [] a__law_near_one d__law_near_one
  g__law_near_one : mg "_law_near_one" = some (.ref a__law_near_one)
  b__law_near_one : Binds K d__law_near_one ["d", "hearing", "path", "many"] []
  a__law_near : Addr
  d__law_near : FuncData
  F__law_near : FunD K "_law_near" "_law_near" (defArgs (top 43)) (defBody (top 43)) (defScope (top 43)) [] [] a__law_near d__law_near
  g__law_near : mg "_law_near" = some (.ref a__law_near)
  b__law_near : Binds K d__law_near ["d", "hearing", "own", "every", "right"] []
  a__law_asked : Addr
  d__law_asked : FuncData
  F__law_asked : FunD K "_law_asked" "_law_asked" (defArgs (top 44)) (defBody (top 44)) (defScope (top 44)) [] [] a__law_asked d__law_asked
  g__law_asked : mg "_law_asked" = some (.ref a__law_asked)
  b__law_asked : Binds K d__law_asked ["box", "hearing", "person", "own", "things"] []
  a__law_are_truthful : Addr
  d__law_are_truthful : FuncData
  F__law_are_truthful : FunD K "_law_are_truthful" "_law_are_truthful" (defArgs (top 45)) (defBody (top 45)) (defScope (top 45)) [] [] a__law_are_truthful d__law_are_truthful
  g__law_are_truthful : mg "_law_are_truthful" = some (.ref a__law_are_truthful)
  b__law_are_truthful : Binds K d__law_are_truthful ["box", "hearing", "person"] []
  a__law_drawn_pairs : Addr
  d__law_drawn_pairs : FuncData
  F__law_drawn_pairs : FunD K "_law_drawn_pairs" "_law_drawn_pairs" (defArgs (top 46)) (defBody (top 46)) (defScope (top 46)) [] [] a__law_drawn_pairs d__law_drawn_pairs
  g__law_drawn_pairs : mg "_law_drawn_pairs" = some (.ref a__law_drawn_pairs)
  b__law_drawn_pairs : Binds K d__law_drawn_pairs ["d", "own"] []
  a__law_world : Addr
  d__law_world : FuncData
  F__law_world : FunD K "_law_world" "_law_world" (defArgs (top 47)) (defBody (top 47)) (defScope (top 47)) [] [] a__law_world d__law_world
  g__law_world : mg "_law_world" = some (.ref a__law_world)
  b__law_world : Binds K d__law_world ["d"] []
  a_law : Addr
  d_law : FuncData
  F_law : FunD K "law" "law" (defArgs (top 48)) (defBody (top 48)) (defScope (top 48)) [] [] a_law d_law
  g_law : mg "law" = some (.ref a_law)
  b_law : Binds K d_law ["script"] []
  n_abs : mg "abs" = none
  n_all : mg "all" = none
  n_bool : mg "bool" = none
  n_int : mg "int" = none
  n_isinstance : mg "isinstance" = none
  n_len : mg "len" = none
  n_list : mg "list" = none
  n_range : mg "range" = none
  n_sorted : mg "sorted" = none
  n_tuple : mg "tuple" = none
section
variable {P : Program} {w : World} {K : PySem.W.Frag} {mg : Str → Option Value} {base : Heap}
theorem sc_narrowed : FnScope ["box", "person", "kinds"] ["box", "person", "kinds"] (defScope (top 1)) := ⟨rfl, rfl, rfl, by decide +kernel, rfl, by decide +kernel, by decide +kernel⟩
theorem ok_narrowed (W : Fx K mg) : FnOkG P w K mg base CX0 1 W.a_narrowed W.d_narrowed ["box", "person", "kinds"] (spD K 3 c_narrowed) :=
  fn_okD W.F_narrowed sc_narrowed rfl rfl fun cdv A outer s H E hr => (have hN := sc_narrowed.nd; (sss_cons (ss_ret (sa_bin op_addAll s_add (sa_bin op_addAll s_add (sa_slice sa_var spo_none (spo_some sa_var)) (sa_tup (sas_cons (sa_callTy call_tuple_ofF s_tuple W.n_tuple (by decide +kernel) (sas_cons sa_var sas_nil)) sas_nil))) (sa_slice sa_var (spo_some (sa_bin op_addAll s_add sa_var sa_int)) spo_none))) sss_nil) : SSs _ _ m_narrowed)
theorem sc_is_leaf : FnScope ["hearing"] ["hearing"] (defScope (top 3)) := ⟨rfl, rfl, rfl, by decide +kernel, rfl, by decide +kernel, by decide +kernel⟩
theorem ok_is_leaf (W : Fx K mg) : FnOkG P w K mg base CX0 1 W.a_is_leaf W.d_is_leaf ["hearing"] (spD K 1 c_is_leaf) :=
  fn_okD W.F_is_leaf sc_is_leaf rfl rfl fun cdv A outer s H E hr => (have hN := sc_is_leaf.nd; (sss_cons (ss_ret (sa_cmp (op_eqD (u64 hr)) s_eq (nomark _) (sa_ix (u65 hr) sa_var sa_int) sa_str)) sss_nil) : SSs _ _ m_is_leaf)
theorem sc_nodes_from : FnScope ["path", "box", "hearing", "found", "at", "kinds", "below"] ["path", "box", "hearing"] (defScope (top 4)) := ⟨rfl, rfl, rfl, by decide +kernel, rfl, by decide +kernel, by decide +kernel⟩
theorem okS_nodes_from (W : Fx K mg) : ∀ n : Nat, (FnOkG P w K mg base CX0 (1 + n) W.a_nodes_from W.d_nodes_from ["path", "box", "hearing"] (spD K 3 (c_nodes_from n)))
  | 0 => FnOkG.bad
  | n + 1 => have ih := okS_nodes_from W n; fn_okD (k := 1 + n) W.F_nodes_from sc_nodes_from rfl rfl fun cdv A outer s H E hr => (have hN := sc_nodes_from.nd; (sss_cons (ss_set (sa_lst (sas_cons (sa_tup (sas_cons sa_var (sas_cons sa_var (sas_cons sa_var sas_nil))) (hl := Nat.le_of_ble_eq_true rfl)) sas_nil) (hl := Nat.le_of_ble_eq_true rfl)) hN) (sss_cons (ss_if (st_truth (sa_call (ok_is_leaf W) (hr.mono (Nat.le_trans (by decide) (Nat.le_add_right 1 n))) W.g_is_leaf W.F_is_leaf.kp W.b_is_leaf (sas_cons sa_var sas_nil))) (sss_cons (ss_ret sa_var) sss_nil) sss_nil) (sss_cons (ss_for PassesOwn.never rfl (si_range1 W.n_range (sa_callB call_lenAll s_len W.n_len (by decide +kernel) (sas_cons (sa_ix (u65 hr) sa_var sa_int) sas_nil))) (sg_name hN) (sss_cons (ss_asg (sa_ix (u65 hr) (sa_ix (u65 hr) sa_var sa_int) sa_var) (sg_tup rfl (sgs_cons (sg_name hN) (sgs_cons (sg_name hN) sgs_nil)))) (sss_cons (ss_expr (sa_meth PySem.F.slot_list_extend PySem.F.type_list_extend mt_extend s_extend (sas_cons (sa_call (ih) (hr.mono (Nat.le_refl _)) W.g_nodes_from W.F_nodes_from.kp W.b_nodes_from (sas_cons (sa_bin op_addAll s_add sa_var (sa_tup (sas_cons sa_var sas_nil) (hl := Nat.le_of_ble_eq_true rfl))) (sas_cons (sa_call (ok_narrowed W) (hr.mono (Nat.le_trans (by decide) (Nat.le_add_right 1 n))) W.g_narrowed W.F_narrowed.kp W.b_narrowed (sas_cons sa_var (sas_cons (sa_ix (u65 hr) sa_var sa_int) (sas_cons sa_var sas_nil)))) (sas_cons sa_var sas_nil)))) sas_nil))) sss_nil))) (sss_cons (ss_ret sa_var) sss_nil)))) : SSs _ _ (m_nodes_from (c_nodes_from n)))
theorem ok_nodes_from (W : Fx K mg) : FnOkG P w K mg base CX0 (1 + 30) W.a_nodes_from W.d_nodes_from ["path", "box", "hearing"] (spD K 3 (c_nodes_from 30)) := (okS_nodes_from W 30)
theorem sc_questions_of : FnScope ["box", "hearing", "path", "here", "node"] ["box", "hearing"] (defScope (top 5)) := ⟨rfl, rfl, rfl, by decide +kernel, rfl, by decide +kernel, by decide +kernel⟩
theorem ok_questions_of (W : Fx K mg) : FnOkG P w K mg base CX0 32 W.a_questions_of W.d_questions_of ["box", "hearing"] (spD K 2 c_questions_of) :=
  fn_okD W.F_questions_of sc_questions_of rfl rfl fun cdv A outer s H E hr => (have hN := sc_questions_of.nd; (sss_cons (ss_ret (sa_callTy call_tuple_ofF s_tuple W.n_tuple (by decide +kernel) (sas_cons (sa_lc rfl hN (si_seq (sa_call (ok_nodes_from W) (hr.mono (by decide)) W.g_nodes_from W.F_nodes_from.kp W.b_nodes_from (sas_cons (sa_tup sas_nil) (sas_cons sa_var (sas_cons sa_var sas_nil))))) (blk_of (own := [("path", 2), ("here", 3), ("node", 4)]) (by kernel_rfl)) rfl (fun _ _ _ _ _ => (sg_tup rfl (sgs_cons (sg_name hN) (sgs_cons (sg_name hN) (sgs_cons (sg_name hN) sgs_nil))))) (fun _ _ _ _ _ => (sts_one (st_not (st_truth (sa_call (ok_is_leaf W) (hr.mono (by decide)) W.g_is_leaf W.F_is_leaf.kp W.b_is_leaf (sas_cons sa_var sas_nil)))))) (fun _ _ _ _ _ => (sa_tup (sas_cons sa_var (sas_cons (sa_ix (u65 hr) sa_var sa_int) (sas_cons sa_var sas_nil)))))) sas_nil))) sss_nil) : SSs _ _ m_questions_of)
theorem sc_node_at : FnScope ["hearing", "path", "node", "branch"] ["hearing", "path"] (defScope (top 7)) := ⟨rfl, rfl, rfl, by decide +kernel, rfl, by decide +kernel, by decide +kernel⟩
theorem ok_node_at (W : Fx K mg) : FnOkG P w K mg base CX0 1 W.a_node_at W.d_node_at ["hearing", "path"] (spD K 2 c_node_at_k36) :=
  fn_okD W.F_node_at sc_node_at rfl rfl fun cdv A outer s H E hr => (have hN := sc_node_at.nd; (sss_cons (ss_set sa_var hN) (sss_cons (ss_for PassesOwn.never rfl (si_seq sa_var) (sg_name hN) (sss_cons (ss_set (sa_ix (u65 hr) (sa_ix (u65 hr) (sa_ix (u65 hr) sa_var sa_int) sa_var) sa_int) hN) sss_nil)) (sss_cons (ss_ret sa_var) sss_nil))) : SSs _ _ m_node_at_k36)
theorem sc_branches_at : FnScope ["hearing", "path"] ["hearing", "path"] (defScope (top 8)) := ⟨rfl, rfl, rfl, by decide +kernel, rfl, by decide +kernel, by decide +kernel⟩
theorem ok_branches_at (W : Fx K mg) : FnOkG P w K mg base CX0 2 W.a_branches_at W.d_branches_at ["hearing", "path"] (spD K 2 c_branches_at) :=
  fn_okD W.F_branches_at sc_branches_at rfl rfl fun cdv A outer s H E hr => (have hN := sc_branches_at.nd; (sss_cons (ss_ret (sa_ix (u65 hr) (sa_call (ok_node_at W) (hr.mono (by decide)) W.g_node_at W.F_node_at.kp W.b_node_at (sas_cons sa_var (sas_cons sa_var sas_nil))) sa_int)) sss_nil) : SSs _ _ m_branches_at)
theorem sc_kinds_at : FnScope ["hearing", "path", "branch"] ["hearing", "path", "branch"] (defScope (top 9)) := ⟨rfl, rfl, rfl, by decide +kernel, rfl, by decide +kernel, by decide +kernel⟩
theorem ok_kinds_at (W : Fx K mg) : FnOkG P w K mg base CX0 3 W.a_kinds_at W.d_kinds_at ["hearing", "path", "branch"] (spD K 3 c_kinds_at) :=
  fn_okD W.F_kinds_at sc_kinds_at rfl rfl fun cdv A outer s H E hr => (have hN := sc_kinds_at.nd; (sss_cons (ss_ret (sa_ix (u65 hr) (sa_ix (u65 hr) (sa_call (ok_branches_at W) (hr.mono (by decide)) W.g_branches_at W.F_branches_at.kp W.b_branches_at (sas_cons sa_var (sas_cons sa_var sas_nil))) sa_var) sa_int)) sss_nil) : SSs _ _ m_kinds_at)
theorem sc_branch_with : FnScope ["hearing", "path", "kind", "branch"] ["hearing", "path", "kind"] (defScope (top 10)) := ⟨rfl, rfl, rfl, by decide +kernel, rfl, by decide +kernel, by decide +kernel⟩
theorem ok_branch_with (W : Fx K mg) : FnOkG P w K mg base CX0 4 W.a_branch_with W.d_branch_with ["hearing", "path", "kind"] (spD K 3 c_branch_with_k36) :=
  fn_okD W.F_branch_with sc_branch_with rfl rfl fun cdv A outer s H E hr => (have hN := sc_branch_with.nd; (sss_cons (ss_for PassesOwn.never rfl (si_range1 W.n_range (sa_callB call_lenAll s_len W.n_len (by decide +kernel) (sas_cons (sa_call (ok_branches_at W) (hr.mono (by decide)) W.g_branches_at W.F_branches_at.kp W.b_branches_at (sas_cons sa_var (sas_cons sa_var sas_nil))) sas_nil))) (sg_name hN) (sss_cons (ss_if (st_cmp (op_inAll (u65 hr)) s_in (by rfl) sa_var (sa_call (ok_kinds_at W) (hr.mono (by decide)) W.g_kinds_at W.F_kinds_at.kp W.b_kinds_at (sas_cons sa_var (sas_cons sa_var (sas_cons sa_var sas_nil)))) bl_in) (sss_cons (ss_ret sa_var) sss_nil) sss_nil) sss_nil)) (sss_cons (ss_ret sa_non) sss_nil)) : SSs _ _ m_branch_with_k36)
theorem sc_own_questions : FnScope ["box", "hearing", "person", "found", "path", "someone", "inner"] ["box", "hearing", "person"] (defScope (top 11)) := ⟨rfl, rfl, rfl, by decide +kernel, rfl, by decide +kernel, by decide +kernel⟩
theorem ok_own_questions (W : Fx K mg) : FnOkG P w K mg base CX0 33 W.a_own_questions W.d_own_questions ["box", "hearing", "person"] (spD K 3 c_own_questions) :=
  fn_okD W.F_own_questions sc_own_questions rfl rfl fun cdv A outer s H E hr => (have hN := sc_own_questions.nd; (sss_cons (ss_set (sa_lst sas_nil) hN) (sss_cons (ss_for PassesOwn.never rfl (si_seq (sa_call (ok_questions_of W) (hr.mono (by decide)) W.g_questions_of W.F_questions_of.kp W.b_questions_of (sas_cons sa_var (sas_cons sa_var sas_nil)))) (sg_tup rfl (sgs_cons (sg_name hN) (sgs_cons (sg_name hN) (sgs_cons (sg_name hN) sgs_nil)))) (sss_cons (ss_if (st_cmp (op_eqD (u64 hr)) s_eq (nomark _) sa_var sa_var bl_eq) (sss_cons (ss_expr (sa_meth PySem.F.slot_list_append PySem.F.type_list_append mt_append s_append (sas_cons (sa_tup (sas_cons sa_var (sas_cons sa_var sas_nil))) sas_nil))) sss_nil) sss_nil) sss_nil)) (sss_cons (ss_ret (sa_callTy call_tuple_ofF s_tuple W.n_tuple (by decide +kernel) (sas_cons sa_var sas_nil))) sss_nil))) : SSs _ _ m_own_questions)
theorem sc_choices_of : FnScope ["box", "hearing", "person", "found", "path", "inner"] ["box", "hearing", "person"] (defScope (top 12)) := ⟨rfl, rfl, rfl, by decide +kernel, rfl, by decide +kernel, by decide +kernel⟩
theorem ok_choices_of (W : Fx K mg) : FnOkG P w K mg base CX0 34 W.a_choices_of W.d_choices_of ["box", "hearing", "person"] (spD K 3 c_choices_of_k36) :=
  fn_okD W.F_choices_of sc_choices_of rfl rfl fun cdv A outer s H E hr => (have hN := sc_choices_of.nd; (sss_cons (ss_set (sa_lst sas_nil) hN) (sss_cons (ss_for PassesOwn.never rfl (si_seq (sa_call (ok_own_questions W) (hr.mono (by decide)) W.g_own_questions W.F_own_questions.kp W.b_own_questions (sas_cons sa_var (sas_cons sa_var (sas_cons sa_var sas_nil))))) (sg_tup rfl (sgs_cons (sg_name hN) (sgs_cons (sg_name hN) sgs_nil))) (sss_cons (ss_expr (sa_meth PySem.F.slot_list_append PySem.F.type_list_append mt_append s_append (sas_cons (sa_tup (sas_cons sa_var (sas_cons (sa_callB call_lenAll s_len W.n_len (by decide +kernel) (sas_cons (sa_call (ok_branches_at W) (hr.mono (by decide)) W.g_branches_at W.F_branches_at.kp W.b_branches_at (sas_cons sa_var (sas_cons sa_var sas_nil))) sas_nil)) sas_nil))) sas_nil))) sss_nil)) (sss_cons (ss_ret (sa_callTy call_tuple_ofF s_tuple W.n_tuple (by decide +kernel) (sas_cons sa_var sas_nil))) sss_nil))) : SSs _ _ m_choices_of_k36)
theorem sc_are_ascending : FnScope ["paths", "at"] ["paths"] (defScope (top 14)) := ⟨rfl, rfl, rfl, by decide +kernel, rfl, by decide +kernel, by decide +kernel⟩
theorem ok_are_ascending (W : Fx K mg) : FnOkG P w K mg base CX0 1 W.a_are_ascending W.d_are_ascending ["paths"] (spD K 1 c_are_ascending) :=
  fn_okD W.F_are_ascending sc_are_ascending rfl rfl fun cdv A outer s H E hr => (have hN := sc_are_ascending.nd; (sss_cons (ss_for PassesOwn.never rfl (si_range2 W.n_range sa_int (sa_callB call_lenAll s_len W.n_len (by decide +kernel) (sas_cons sa_var sas_nil))) (sg_name hN) (sss_cons (ss_if (st_cmp (oq_geT (u0 hr)) s_geT (nomark _) (sa_ix (u65 hr) sa_var (sa_bin op_sub s_sub sa_var sa_int)) (sa_ix (u65 hr) sa_var sa_var) bl_TT) (sss_cons (ss_ret sa_bl) sss_nil) sss_nil) sss_nil)) (sss_cons (ss_ret sa_bl) sss_nil)) : SSs _ _ m_are_ascending)
theorem sc_are_choices : FnScope ["choices", "strategy", "many", "path", "number", "branch"] ["choices", "strategy"] (defScope (top 15)) := ⟨rfl, rfl, rfl, by decide +kernel, rfl, by decide +kernel, by decide +kernel⟩
theorem ok_are_choices (W : Fx K mg) : FnOkG P w K mg base CX0 1 W.a_are_choices W.d_are_choices ["choices", "strategy"] (spD K 2 c_are_choices) :=
  fn_okD W.F_are_choices sc_are_choices rfl rfl fun cdv A outer s H E hr => (have hN := sc_are_choices.nd; (sss_cons (ss_setDcU (u65 hr) rfl hN (si_seq sa_var) (blk_of (own := [("path", 3), ("number", 4)]) (by kernel_rfl)) rfl (fun _ _ _ _ _ => (sg_tup rfl (sgs_cons (sg_name hN) (sgs_cons (sg_name hN) sgs_nil)))) (fun _ _ _ _ _ => sts_nil) (fun _ _ _ _ _ => sa_var) (fun _ _ _ _ _ => sa_var)) (sss_cons (ss_for PassesOwn.never rfl (si_seq sa_var) (sg_tup rfl (sgs_cons (sg_name hN) (sgs_cons (sg_name hN) sgs_nil))) (sss_cons (ss_if (sw_or (st_cmp (op_notInAll (u65 hr)) s_notIn (by rfl) sa_var sa_var bl_in) (sw_or1 (st_not (st_chain op_le op_lt s_cmp s_cmp sa_int sa_var (sa_ix (u65 hr) sa_var sa_var) bl_cmp)))).st (sss_cons (ss_ret sa_bl) sss_nil) sss_nil) sss_nil)) (sss_cons (ss_ret sa_bl) sss_nil))) : SSs _ _ m_are_choices)
theorem sc_is_strategy : FnScope ["box", "hearing", "person", "strategy", "path", "branch"] ["box", "hearing", "person", "strategy"] (defScope (top 16)) := ⟨rfl, rfl, rfl, by decide +kernel, rfl, by decide +kernel, by decide +kernel⟩
theorem ok_is_strategy (W : Fx K mg) : FnOkG P w K mg base CX0 35 W.a_is_strategy W.d_is_strategy ["box", "hearing", "person", "strategy"] (spD K 4 c_is_strategy) :=
  fn_okD W.F_is_strategy sc_is_strategy rfl rfl fun cdv A outer s H E hr => (have hN := sc_is_strategy.nd; (sss_cons (ss_if (st_not (st_truth (sa_call (ok_are_ascending W) (hr.mono (by decide)) W.g_are_ascending W.F_are_ascending.kp W.b_are_ascending (sas_cons (sa_lc rfl hN (si_seq sa_var) (blk_of (own := [("path", 4), ("branch", 5)]) (by kernel_rfl)) rfl (fun _ _ _ _ _ => (sg_tup rfl (sgs_cons (sg_name hN) (sgs_cons (sg_name hN) sgs_nil)))) (fun _ _ _ _ _ => sts_nil) (fun _ _ _ _ _ => sa_var)) sas_nil)))) (sss_cons (ss_ret sa_bl) sss_nil) sss_nil) (sss_cons (ss_ret (sa_call (ok_are_choices W) (hr.mono (by decide)) W.g_are_choices W.F_are_choices.kp W.b_are_choices (sas_cons (sa_call (ok_choices_of W) (hr.mono (by decide)) W.g_choices_of W.F_choices_of.kp W.b_choices_of (sas_cons sa_var (sas_cons sa_var (sas_cons sa_var sas_nil)))) (sas_cons sa_var sas_nil)))) sss_nil)) : SSs _ _ m_is_strategy)
theorem sc_truthful : FnScope ["box", "hearing", "person", "kind", "pairs", "path", "inner"] ["box", "hearing", "person", "kind"] (defScope (top 17)) := ⟨rfl, rfl, rfl, by decide +kernel, rfl, by decide +kernel, by decide +kernel⟩
theorem ok_truthful (W : Fx K mg) : FnOkG P w K mg base CX0 34 W.a_truthful W.d_truthful ["box", "hearing", "person", "kind"] (spD K 4 c_truthful) :=
  fn_okD W.F_truthful sc_truthful rfl rfl fun cdv A outer s H E hr => (have hN := sc_truthful.nd; (sss_cons (ss_set (sa_lst sas_nil) hN) (sss_cons (ss_for PassesOwn.never rfl (si_seq (sa_call (ok_own_questions W) (hr.mono (by decide)) W.g_own_questions W.F_own_questions.kp W.b_own_questions (sas_cons sa_var (sas_cons sa_var (sas_cons sa_var sas_nil))))) (sg_tup rfl (sgs_cons (sg_name hN) (sgs_cons (sg_name hN) sgs_nil))) (sss_cons (ss_if (st_cmp (op_inAll (u65 hr)) s_in (by rfl) sa_var (sa_ix (u65 hr) sa_var sa_var) bl_in) (sss_cons (ss_expr (sa_meth PySem.F.slot_list_append PySem.F.type_list_append mt_append s_append (sas_cons (sa_tup (sas_cons sa_var (sas_cons (sa_call (ok_branch_with W) (hr.mono (by decide)) W.g_branch_with W.F_branch_with.kp W.b_branch_with (sas_cons sa_var (sas_cons sa_var (sas_cons sa_var sas_nil)))) sas_nil))) sas_nil))) sss_nil) sss_nil) sss_nil)) (sss_cons (ss_ret (sa_callTy call_tuple_ofF s_tuple W.n_tuple (by decide +kernel) (sas_cons sa_var sas_nil))) sss_nil))) : SSs _ _ m_truthful)
theorem sc__law_begin : FnScope ["script", "cell"] ["script"] (defScope (top 19)) := ⟨rfl, rfl, rfl, by decide +kernel, rfl, by decide +kernel, by decide +kernel⟩
theorem ok__law_begin (W : Fx K mg) : FnOkG P w K mg base CX0 1 W.a__law_begin W.d__law_begin ["script"] (spD K 1 c__law_begin) :=
  fn_okD W.F__law_begin sc__law_begin rfl rfl fun cdv A outer s H E hr => (have hN := sc__law_begin.nd; (sss_cons (ss_ret (sa_lst (sas_cons (sa_lc rfl hN (si_seq sa_var) (blk_of (own := [("cell", 1)]) (by kernel_rfl)) rfl (fun _ _ _ _ _ => (sg_name hN)) (fun _ _ _ _ _ => sts_nil) (fun _ _ _ _ _ => (sa_callTy call_int1 s_int W.n_int (by decide +kernel) (sas_cons sa_var sas_nil)))) (sas_cons sa_int (sas_cons sa_int (sas_cons sa_int sas_nil)))))) sss_nil) : SSs _ _ m__law_begin)
theorem sc__law_draw : FnScope ["d", "many", "found", "size", "cell"] ["d", "many"] (defScope (top 20)) := ⟨rfl, rfl, rfl, by decide +kernel, rfl, by decide +kernel, by decide +kernel⟩
theorem ok__law_draw (W : Fx K mg) : FnOkG P w K mg base CX0 1 W.a__law_draw W.d__law_draw ["d", "many"] (spD K 2 c__law_draw) :=
  fn_okD W.F__law_draw sc__law_draw rfl rfl fun cdv A outer s H E hr => (have hN := sc__law_draw.nd; (sss_cons (ss_if (st_cmp op_gt s_cmp (nomark _) (sa_ix (u65 hr) sa_var sa_int) sa_int bl_cmp) (sss_cons (ss_set (sa_ix (u65 hr) sa_var sa_int) hN) (sss_cons (ss_setIxL (u65 hr) (by rfl) (by first | exact Or.inl rfl | exact Or.inr (Or.inl rfl) | exact Or.inr (Or.inr rfl)) (by decide) (by decide) (sa_bin op_fdivW s_div sa_var sa_var) sa_int (by rfl) (by rfl) (by intros; rfl) (by rfl)) (sss_cons (ss_ret (sa_bin op_mod s_mod (sa_callTy call_int1 s_int W.n_int (by decide +kernel) (sas_cons sa_var sas_nil)) sa_var)) sss_nil))) sss_nil) (sss_cons (ss_set sa_int hN) (sss_cons (ss_if (st_cmp op_lt s_cmp (nomark _) (sa_ix (u65 hr) sa_var sa_int) (sa_callB call_lenAll s_len W.n_len (by decide +kernel) (sas_cons (sa_ix (u65 hr) sa_var sa_int) sas_nil)) bl_cmp) (sss_cons (ss_set (sa_ix (u65 hr) (sa_ix (u65 hr) sa_var sa_int) (sa_ix (u65 hr) sa_var sa_int)) hN) (sss_cons (ss_set (sa_bin op_addAll s_add (sa_bin op_mulAll s_mul sa_int (sa_callB call_abs s_abs W.n_abs (by decide +kernel) (sas_cons sa_var sas_nil))) (sa_callTy call_int1 s_int W.n_int (by decide +kernel) (sas_cons (sa_cmp op_lt s_cmp (nomark _) sa_var sa_int) sas_nil))) hN) sss_nil)) sss_nil) (sss_cons (ss_augIx iop_addAll s_iadd sa_int sa_int) (sss_cons (ss_if (st_cmp op_ge s_cmp (nomark _) sa_var (sa_bin op_mulAll s_mul sa_int (sa_bin op_pow s_pow sa_int sa_int)) bl_cmp) (sss_cons (ss_set (sa_bin op_mod s_mod (sa_callTy call_int1 s_int W.n_int (by decide +kernel) (sas_cons (sa_bin op_fdivW s_div sa_var sa_int) sas_nil)) (sa_bin op_shl s_shl sa_int sa_int)) hN) (sss_cons (ss_setIxL (u65 hr) (by rfl) (by first | exact Or.inl rfl | exact Or.inr (Or.inl rfl) | exact Or.inr (Or.inr rfl)) (by decide) (by decide) (sa_bin op_fdivW s_div sa_var sa_var) sa_int (by rfl) (by rfl) (by intros; rfl) (by rfl)) (sss_cons (ss_ret (sa_bin op_mod s_mod (sa_callTy call_int1 s_int W.n_int (by decide +kernel) (sas_cons sa_var sas_nil)) sa_var)) sss_nil))) sss_nil) (sss_cons (ss_setIxL (u65 hr) (by rfl) (by first | exact Or.inl rfl | exact Or.inr (Or.inl rfl) | exact Or.inr (Or.inr rfl)) (by decide) (by decide) (sa_bin op_mod s_mod (sa_callTy call_int1 s_int W.n_int (by decide +kernel) (sas_cons (sa_bin op_addAll s_add (sa_bin op_addAll s_add (sa_bin op_addAll s_add (sa_bin op_mulAll s_mul (sa_ix (u65 hr) sa_var sa_int) sa_int) (sa_bin op_mulAll s_mul (sa_bin op_mod s_mod (sa_callTy call_int1 s_int W.n_int (by decide +kernel) (sas_cons sa_var sas_nil)) sa_int) sa_int)) (sa_bin op_mulAll s_mul (sa_ix (u65 hr) sa_var sa_int) sa_int)) sa_int) sas_nil)) sa_int) sa_int (by rfl) (by rfl) (by intros; rfl) (by rfl)) (sss_cons (ss_ret (sa_bin op_mod s_mod (sa_callTy call_int1 s_int W.n_int (by decide +kernel) (sas_cons (sa_bin op_fdivW s_div (sa_ix (u65 hr) sa_var sa_int) sa_int) sas_nil)) sa_var)) sss_nil))))))) : SSs _ _ m__law_draw)
theorem sc__law_pick : FnScope ["d", "row"] ["d", "row"] (defScope (top 21)) := ⟨rfl, rfl, rfl, by decide +kernel, rfl, by decide +kernel, by decide +kernel⟩
theorem ok__law_pick (W : Fx K mg) : FnOkG P w K mg base CX0 2 W.a__law_pick W.d__law_pick ["d", "row"] (spD K 2 c__law_pick) :=
  fn_okD W.F__law_pick sc__law_pick rfl rfl fun cdv A outer s H E hr => (have hN := sc__law_pick.nd; (sss_cons (ss_ret (sa_ix (u65 hr) sa_var (sa_call (ok__law_draw W) (hr.mono (by decide)) W.g__law_draw W.F__law_draw.kp W.b__law_draw (sas_cons sa_var (sas_cons (sa_callB call_lenAll s_len W.n_len (by decide +kernel) (sas_cons sa_var sas_nil)) sas_nil))))) sss_nil) : SSs _ _ m__law_pick)
theorem sc__law_rare : FnScope ["d", "many"] ["d", "many"] (defScope (top 22)) := ⟨rfl, rfl, rfl, by decide +kernel, rfl, by decide +kernel, by decide +kernel⟩
theorem ok__law_rare (W : Fx K mg) : FnOkG P w K mg base CX0 2 W.a__law_rare W.d__law_rare ["d", "many"] (spD K 2 c__law_rare) :=
  fn_okD W.F__law_rare sc__law_rare rfl rfl fun cdv A outer s H E hr => (have hN := sc__law_rare.nd; (sss_cons (ss_ret (sa_cmp (op_eqD (u64 hr)) s_eq (nomark _) (sa_call (ok__law_draw W) (hr.mono (by decide)) W.g__law_draw W.F__law_draw.kp W.b__law_draw (sas_cons sa_var (sas_cons sa_var sas_nil))) (sa_bin op_fdivW s_div sa_var sa_int))) sss_nil) : SSs _ _ m__law_rare)
theorem sc__law_is_int : FnScope ["thing"] ["thing"] (defScope (top 23)) := ⟨rfl, rfl, rfl, by decide +kernel, rfl, by decide +kernel, by decide +kernel⟩
theorem ok__law_is_int (W : Fx K mg) : FnOkG P w K mg base CX0 1 W.a__law_is_int W.d__law_is_int ["thing"] (spD K 1 c__law_is_int) :=
  fn_okD W.F__law_is_int sc__law_is_int rfl rfl fun cdv A outer s H E hr => (have hN := sc__law_is_int.nd; (sss_cons (ss_ret (sa_and (sa_isi (T := "int") W.n_isinstance W.n_int sa_var rfl) (sa_one (sa_not (sa_isi (T := "bool") W.n_isinstance W.n_bool sa_var rfl))))) sss_nil) : SSs _ _ m__law_is_int)
theorem sc__law_is_ints : FnScope ["row", "share"] ["row"] (defScope (top 24)) := ⟨rfl, rfl, rfl, by decide +kernel, rfl, by decide +kernel, by decide +kernel⟩
theorem ok__law_is_ints (W : Fx K mg) : FnOkG P w K mg base CX0 2 W.a__law_is_ints W.d__law_is_ints ["row"] (spD K 1 c__law_is_ints) :=
  fn_okD W.F__law_is_ints sc__law_is_ints rfl rfl fun cdv A outer s H E hr => (have hN := sc__law_is_ints.nd; (sss_cons (ss_ret (sa_and (sa_isi (T := "tuple") W.n_isinstance W.n_tuple sa_var rfl) (sa_one (sa_callB (cr_all rfl) s_all W.n_all (by decide +kernel) (sas_cons (sa_lc rfl hN (si_seq sa_var) (blk_of (own := [("share", 1)]) (by kernel_rfl)) rfl (fun _ _ _ _ _ => (sg_name hN)) (fun _ _ _ _ _ => sts_nil) (fun _ _ _ _ _ => (sa_call (ok__law_is_int W) (hr.mono (by decide)) W.g__law_is_int W.F__law_is_int.kp W.b__law_is_int (sas_cons sa_var sas_nil)))) sas_nil))))) sss_nil) : SSs _ _ m__law_is_ints)
theorem sc__law_is_pair : FnScope ["thing"] ["thing"] (defScope (top 25)) := ⟨rfl, rfl, rfl, by decide +kernel, rfl, by decide +kernel, by decide +kernel⟩
theorem ok__law_is_pair (W : Fx K mg) : FnOkG P w K mg base CX0 1 W.a__law_is_pair W.d__law_is_pair ["thing"] (spD K 1 c__law_is_pair) :=
  fn_okD W.F__law_is_pair sc__law_is_pair rfl rfl fun cdv A outer s H E hr => (have hN := sc__law_is_pair.nd; (sss_cons (ss_ret (sa_and (sa_isi (T := "tuple") W.n_isinstance W.n_tuple sa_var rfl) (sa_one (sa_cmp (op_eqD (u64 hr)) s_eq (nomark _) (sa_callB call_lenAll s_len W.n_len (by decide +kernel) (sas_cons sa_var sas_nil)) sa_int)))) sss_nil) : SSs _ _ m__law_is_pair)
theorem sc__law_sizes : FnScope ["d", "limit", "menu", "found", "sizes", "rows", "many"] ["d", "limit"] (defScope (top 26)) := ⟨rfl, rfl, rfl, by decide +kernel, rfl, by decide +kernel, by decide +kernel⟩
theorem ok__law_sizes (W : Fx K mg) : FnOkG P w K mg base CX0 3 W.a__law_sizes W.d__law_sizes ["d", "limit"] (spD K 2 c__law_sizes) :=
  fn_okD W.F__law_sizes sc__law_sizes rfl rfl fun cdv A outer s H E hr => (have hN := sc__law_sizes.nd; (sss_cons (ss_set (sa_lst (sas_cons (sa_tup (sas_cons sa_int (sas_cons sa_int sas_nil))) (sas_cons (sa_tup (sas_cons sa_int (sas_cons sa_int sas_nil))) (sas_cons (sa_tup (sas_cons sa_int (sas_cons sa_int (sas_cons sa_int sas_nil)))) (sas_cons (sa_tup (sas_cons sa_int (sas_cons sa_int sas_nil))) (sas_cons (sa_tup (sas_cons sa_int (sas_cons sa_int sas_nil))) (sas_cons (sa_tup (sas_cons sa_int (sas_cons sa_int sas_nil))) (sas_cons (sa_tup (sas_cons sa_int (sas_cons sa_int (sas_cons sa_int sas_nil)))) (sas_cons (sa_tup (sas_cons sa_int (sas_cons sa_int sas_nil))) (sas_cons (sa_tup (sas_cons sa_int sas_nil)) (sas_cons (sa_tup (sas_cons sa_int (sas_cons sa_int (sas_cons sa_int sas_nil)))) (sas_cons (sa_tup (sas_cons sa_int sas_nil)) (sas_cons (sa_tup (sas_cons sa_int (sas_cons sa_int sas_nil))) sas_nil))))))))))))) hN) (sss_cons (ss_set (sa_bin op_addAll s_add sa_var (sa_lst (sas_cons (sa_tup (sas_cons sa_int (sas_cons sa_int sas_nil))) (sas_cons (sa_tup (sas_cons sa_int (sas_cons sa_int (sas_cons sa_int sas_nil)))) (sas_cons (sa_tup (sas_cons sa_int (sas_cons sa_int sas_nil))) (sas_cons (sa_tup (sas_cons sa_int (sas_cons sa_int (sas_cons sa_int (sas_cons sa_int sas_nil))))) (sas_cons (sa_tup (sas_cons sa_int (sas_cons sa_int sas_nil))) (sas_cons (sa_tup (sas_cons sa_int (sas_cons sa_int (sas_cons sa_int sas_nil)))) (sas_cons (sa_tup (sas_cons sa_int (sas_cons sa_int sas_nil))) (sas_cons (sa_tup (sas_cons sa_int (sas_cons sa_int sas_nil))) (sas_cons (sa_tup (sas_cons sa_int (sas_cons sa_int (sas_cons sa_int (sas_cons sa_int sas_nil))))) sas_nil))))))))))) hN) (sss_cons (ss_set (sa_bin op_addAll s_add sa_var (sa_lst (sas_cons (sa_tup (sas_cons sa_int (sas_cons sa_int (sas_cons sa_int sas_nil)))) (sas_cons (sa_tup (sas_cons sa_int (sas_cons sa_int (sas_cons sa_int sas_nil)))) (sas_cons (sa_tup (sas_cons sa_int (sas_cons sa_int sas_nil))) (sas_cons (sa_tup (sas_cons sa_int (sas_cons sa_int (sas_cons sa_int sas_nil)))) (sas_cons (sa_tup (sas_cons sa_int (sas_cons sa_int sas_nil))) (sas_cons (sa_tup (sas_cons sa_int (sas_cons sa_int (sas_cons sa_int (sas_cons sa_int sas_nil))))) (sas_cons (sa_tup (sas_cons sa_int (sas_cons sa_int sas_nil))) (sas_cons (sa_tup (sas_cons sa_int (sas_cons sa_int (sas_cons sa_int sas_nil)))) (sas_cons (sa_tup (sas_cons sa_int (sas_cons sa_int sas_nil))) (sas_cons (sa_tup (sas_cons sa_int (sas_cons sa_int (sas_cons sa_int sas_nil)))) sas_nil)))))))))))) hN) (sss_cons (ss_set (sa_lst sas_nil) hN) (sss_cons (ss_for PassesOwn.never rfl (si_seq sa_var) (sg_name hN) (sss_cons (ss_set sa_int hN) (sss_cons (ss_for PassesOwn.never rfl (si_seq sa_var) (sg_name hN) (sss_cons (ss_set (sa_bin op_mulAll s_mul sa_var sa_var) hN) sss_nil)) (sss_cons (ss_if (st_cmp op_le s_cmp (nomark _) sa_var sa_var bl_cmp) (sss_cons (ss_expr (sa_meth PySem.F.slot_list_append PySem.F.type_list_append mt_append s_append (sas_cons sa_var sas_nil))) sss_nil) sss_nil) sss_nil)))) (sss_cons (ss_ret (sa_call (ok__law_pick W) (hr.mono (by decide)) W.g__law_pick W.F__law_pick.kp W.b__law_pick (sas_cons sa_var (sas_cons sa_var sas_nil)))) sss_nil)))))) : SSs _ _ m__law_sizes)
theorem sc__law_parts : FnScope ["d", "kinds", "parts", "kind", "at", "share"] ["d", "kinds"] (defScope (top 27)) := ⟨rfl, rfl, rfl, by decide +kernel, rfl, by decide +kernel, by decide +kernel⟩
theorem ok__law_parts (W : Fx K mg) : FnOkG P w K mg base CX0 2 W.a__law_parts W.d__law_parts ["d", "kinds"] (spD K 2 c__law_parts) :=
  fn_okD W.F__law_parts sc__law_parts rfl rfl fun cdv A outer s H E hr => (have hN := sc__law_parts.nd; (sss_cons (ss_set (sa_lst2 (sas_cons (sa_lst (sas_cons (sa_ix (u65 hr) sa_var sa_int) sas_nil)) sas_nil)) hN) (sss_cons (ss_for PassesOwn.never rfl (si_seq (sa_slice sa_var (spo_some sa_int) spo_none)) (sg_name hN) (sss_cons (ss_set (sa_call (ok__law_draw W) (hr.mono (by decide)) W.g__law_draw W.F__law_draw.kp W.b__law_draw (sas_cons sa_var (sas_cons (sa_bin op_addAll s_add (sa_callB call_lenAll s_len W.n_len (by decide +kernel) (sas_cons sa_var sas_nil)) sa_int) sas_nil))) hN) (sss_cons (ss_if (st_cmp (op_eqD (u64 hr)) s_eq (nomark _) sa_var (sa_callB call_lenAll s_len W.n_len (by decide +kernel) (sas_cons sa_var sas_nil)) bl_eq) (sss_cons (ss_expr (sa_app2 (sa_lst (sas_cons sa_var sas_nil)))) sss_nil) (sss_cons (ss_expr (sa_appIx sa_var sa_var)) sss_nil)) sss_nil))) (sss_cons (ss_if (st_cmp (op_eqD (u64 hr)) s_eq (nomark _) (sa_callB call_lenAll s_len W.n_len (by decide +kernel) (sas_cons sa_var sas_nil)) sa_int bl_eq) (sss_cons (ss_set (sa_lst2 (sas_cons (sa_lst (sas_cons (sa_ix (u65 hr) sa_var sa_int) sas_nil)) (sas_cons (sa_callTy call_list_of s_list W.n_list (by decide +kernel) (sas_cons (sa_slice sa_var (spo_some sa_int) spo_none) sas_nil)) sas_nil))) hN) sss_nil) sss_nil) (sss_cons (ss_ret (sa_callTy call_tuple_ofF s_tuple W.n_tuple (by decide +kernel) (sas_cons (sa_lc rfl hN (si_seq sa_var) (blk_of (own := [("share", 5)]) (by kernel_rfl)) rfl (fun _ _ _ _ _ => (sg_name hN)) (fun _ _ _ _ _ => sts_nil) (fun _ _ _ _ _ => (sa_callTy call_tuple_ofF s_tuple W.n_tuple (by decide +kernel) (sas_cons sa_var sas_nil)))) sas_nil))) sss_nil)))) : SSs _ _ m__law_parts)
theorem sc__law_narrowed : FnScope ["box", "person", "kinds"] ["box", "person", "kinds"] (defScope (top 28)) := ⟨rfl, rfl, rfl, by decide +kernel, rfl, by decide +kernel, by decide +kernel⟩
theorem ok__law_narrowed (W : Fx K mg) : FnOkG P w K mg base CX0 1 W.a__law_narrowed W.d__law_narrowed ["box", "person", "kinds"] (spD K 3 c__law_narrowed) :=
  fn_okD W.F__law_narrowed sc__law_narrowed rfl rfl fun cdv A outer s H E hr => (have hN := sc__law_narrowed.nd; (sss_cons (ss_ret (sa_bin op_addAll s_add (sa_bin op_addAll s_add (sa_callTy call_tuple_ofF s_tuple W.n_tuple (by decide +kernel) (sas_cons (sa_slice sa_var spo_none (spo_some sa_var)) sas_nil)) (sa_tup (sas_cons (sa_callTy call_tuple_ofF s_tuple W.n_tuple (by decide +kernel) (sas_cons sa_var sas_nil)) sas_nil))) (sa_callTy call_tuple_ofF s_tuple W.n_tuple (by decide +kernel) (sas_cons (sa_slice sa_var (spo_some (sa_bin op_addAll s_add sa_var sa_int)) spo_none) sas_nil)))) sss_nil) : SSs _ _ m__law_narrowed)
theorem sc__law_hearing : FnScope ["d", "box", "many", "able", "person", "parts", "kind", "rows", "share"] ["d", "box", "many"] (defScope (top 29)) := ⟨rfl, rfl, rfl, by decide +kernel, rfl, by decide +kernel, by decide +kernel⟩
theorem okS__law_hearing (W : Fx K mg) : ∀ n : Nat, (FnOkG P w K mg base CX0 (2 + n) W.a__law_hearing W.d__law_hearing ["d", "box", "many"] (spD K 3 (c__law_hearing n)))
  | 0 => FnOkG.bad
  | n + 1 => have ih := okS__law_hearing W n; fn_okD (k := 2 + n) W.F__law_hearing sc__law_hearing rfl rfl fun cdv A outer s H E hr => (have hN := sc__law_hearing.nd; (sss_cons (ss_setLc rfl hN (si_range1 W.n_range (sa_callB call_lenAll s_len W.n_len (by decide +kernel) (sas_cons sa_var sas_nil))) (blk_of (own := [("person", 4)]) (by kernel_rfl)) rfl (fun _ _ _ _ _ => (sg_name hN)) (fun _ _ _ _ _ => (sts_one (st_cmp op_gt s_cmp (nomark _) (sa_callB call_lenAll s_len W.n_len (by decide +kernel) (sas_cons (sa_ix (u65 hr) sa_var sa_var) sas_nil)) sa_int bl_cmp))) (fun _ _ _ _ _ => sa_var)) (sss_cons (ss_if (sw_or (st_not (st_truth sa_var)) (sw_or (st_cmp op_lt s_cmp (nomark _) sa_var sa_int bl_cmp) (sw_or1 (st_cmp (op_eqD (u64 hr)) s_eq (nomark _) (sa_call (ok__law_draw W) (hr.mono (Nat.le_trans (by decide) (Nat.le_add_right 2 n))) W.g__law_draw W.F__law_draw.kp W.b__law_draw (sas_cons sa_var (sas_cons sa_int sas_nil))) sa_int bl_eq)))).st (sss_cons (ss_ret (sa_tup (sas_cons sa_str sas_nil) (hl := Nat.le_of_ble_eq_true rfl))) sss_nil) sss_nil) (sss_cons (ss_set (sa_call (ok__law_pick W) (hr.mono (Nat.le_trans (by decide) (Nat.le_add_right 2 n))) W.g__law_pick W.F__law_pick.kp W.b__law_pick (sas_cons sa_var (sas_cons sa_var sas_nil))) hN) (sss_cons (ss_set (sa_call (ok__law_parts W) (hr.mono (Nat.le_trans (by decide) (Nat.le_add_right 2 n))) W.g__law_parts W.F__law_parts.kp W.b__law_parts (sas_cons sa_var (sas_cons (sa_ix (u65 hr) sa_var sa_var) sas_nil))) hN) (sss_cons (ss_if (st_cmp op_gt s_cmp (nomark _) (sa_callB call_lenAll s_len W.n_len (by decide +kernel) (sas_cons sa_var sas_nil)) sa_var bl_cmp) (sss_cons (ss_set (sa_tup (sas_cons (sa_ix (u65 hr) sa_var sa_int) (sas_cons (sa_callTy call_tuple_ofF s_tuple W.n_tuple (by decide +kernel) (sas_cons (sa_lc rfl hN (si_seq (sa_ix (u65 hr) sa_var sa_var)) (blk_of (own := [("kind", 6)]) (by kernel_rfl)) rfl (fun _ _ _ _ _ => (sg_name hN)) (fun _ _ _ _ _ => (sts_one (st_cmp (op_notInAll (u65 hr)) s_notIn (by rfl) sa_var (sa_ix (u65 hr) sa_var sa_int) bl_in))) (fun _ _ _ _ _ => sa_var)) sas_nil)) sas_nil)) (hl := Nat.le_of_ble_eq_true rfl)) hN) sss_nil) sss_nil) (sss_cons (ss_set (sa_lst sas_nil (hl := Nat.le_of_ble_eq_true rfl)) hN) (sss_cons (ss_for PassesOwn.never rfl (si_seq sa_var) (sg_name hN) (sss_cons (ss_expr (sa_meth PySem.F.slot_list_append PySem.F.type_list_append mt_append s_append (sas_cons (sa_tup (sas_cons sa_var (sas_cons (sa_call (ih) (hr.mono (Nat.le_refl _)) W.g__law_hearing W.F__law_hearing.kp W.b__law_hearing (sas_cons sa_var (sas_cons (sa_call (ok__law_narrowed W) (hr.mono (Nat.le_trans (by decide) (Nat.le_add_right 2 n))) W.g__law_narrowed W.F__law_narrowed.kp W.b__law_narrowed (sas_cons sa_var (sas_cons sa_var (sas_cons sa_var sas_nil)))) (sas_cons (sa_bin op_fdivW s_div sa_var (sa_callB call_lenAll s_len W.n_len (by decide +kernel) (sas_cons sa_var sas_nil))) sas_nil)))) sas_nil)) (hl := Nat.le_of_ble_eq_true rfl)) sas_nil))) sss_nil)) (sss_cons (ss_ret (sa_tup (sas_cons sa_str (sas_cons sa_var (sas_cons (sa_callTy call_tuple_ofF s_tuple W.n_tuple (by decide +kernel) (sas_cons sa_var sas_nil)) sas_nil))) (hl := Nat.le_of_ble_eq_true rfl))) sss_nil)))))))) : SSs _ _ (m__law_hearing (c__law_hearing n)))
theorem ok__law_hearing (W : Fx K mg) : FnOkG P w K mg base CX0 (2 + 30) W.a__law_hearing W.d__law_hearing ["d", "box", "many"] (spD K 3 (c__law_hearing 30)) := (okS__law_hearing W 30)
theorem sc__law_nodes : FnScope ["box", "hearing", "found", "waiting", "path", "here", "node", "k", "kinds", "below"] ["box", "hearing"] (defScope (top 30)) := ⟨rfl, rfl, rfl, by decide +kernel, rfl, by decide +kernel, by decide +kernel⟩
theorem ok__law_nodes (W : Fx K mg) : FnOkG P w K mg base CX0 2 W.a__law_nodes W.d__law_nodes ["box", "hearing"] (spD K 2 c__law_nodes) :=
  fn_okD W.F__law_nodes sc__law_nodes rfl rfl fun cdv A outer s H E hr => (have hN := sc__law_nodes.nd; (sss_cons (ss_set (sa_lst sas_nil) hN) (sss_cons (ss_set (sa_lst (sas_cons (sa_tup (sas_cons (sa_tup sas_nil) (sas_cons (sa_callTy call_tuple_ofF s_tuple W.n_tuple (by decide +kernel) (sas_cons sa_var sas_nil)) (sas_cons sa_var sas_nil)))) sas_nil)) hN) (sss_cons (ss_while 100000 PassesOwn.never (st_truth sa_var) (sss_cons (ss_asg (sa_meth0 PySem.F.slot_list_pop PySem.F.type_list_pop mt_pop s_pop0) (sg_tup rfl (sgs_cons (sg_name hN) (sgs_cons (sg_name hN) (sgs_cons (sg_name hN) sgs_nil))))) (sss_cons (ss_expr (sa_meth PySem.F.slot_list_append PySem.F.type_list_append mt_append s_append (sas_cons (sa_tup (sas_cons sa_var (sas_cons sa_var (sas_cons sa_var sas_nil)))) sas_nil))) (sss_cons (ss_if (st_cmp (op_eqD (u64 hr)) s_eq (nomark _) (sa_ix (u65 hr) sa_var sa_int) sa_str bl_eq) (sss_cons (ss_for PassesOwn.never rfl (si_range3 W.n_range (sas_cons (sa_bin op_sub s_sub (sa_callB call_lenAll s_len W.n_len (by decide +kernel) (sas_cons (sa_ix (u65 hr) sa_var sa_int) sas_nil)) sa_int) (sas_cons (sa_un un_neg s_neg sa_int) (sas_cons (sa_un un_neg s_neg sa_int) sas_nil)))) (sg_name hN) (sss_cons (ss_asg (sa_ix (u65 hr) (sa_ix (u65 hr) sa_var sa_int) sa_var) (sg_tup rfl (sgs_cons (sg_name hN) (sgs_cons (sg_name hN) sgs_nil)))) (sss_cons (ss_expr (sa_meth PySem.F.slot_list_append PySem.F.type_list_append mt_append s_append (sas_cons (sa_tup (sas_cons (sa_bin op_addAll s_add sa_var (sa_tup (sas_cons sa_var sas_nil))) (sas_cons (sa_call (ok__law_narrowed W) (hr.mono (by decide)) W.g__law_narrowed W.F__law_narrowed.kp W.b__law_narrowed (sas_cons sa_var (sas_cons (sa_ix (u65 hr) sa_var sa_int) (sas_cons sa_var sas_nil)))) (sas_cons sa_var sas_nil)))) sas_nil))) sss_nil))) sss_nil) sss_nil) sss_nil)))) (sss_cons (ss_ret sa_var) sss_nil)))) : SSs _ _ m__law_nodes)
theorem sc__law_drawn_box : FnScope ["d", "box", "found", "share", "some", "kind"] ["d", "box"] (defScope (top 31)) := ⟨rfl, rfl, rfl, by decide +kernel, rfl, by decide +kernel, by decide +kernel⟩
theorem ok__law_drawn_box (W : Fx K mg) : FnOkG P w K mg base CX0 3 W.a__law_drawn_box W.d__law_drawn_box ["d", "box"] (spD K 2 c__law_drawn_box) :=
  fn_okD W.F__law_drawn_box sc__law_drawn_box rfl rfl fun cdv A outer s H E hr => (have hN := sc__law_drawn_box.nd; (sss_cons (ss_set (sa_lst sas_nil) hN) (sss_cons (ss_for PassesOwn.never rfl (si_seq sa_var) (sg_name hN) (sss_cons (ss_set (sa_callTy call_tuple_ofF s_tuple W.n_tuple (by decide +kernel) (sas_cons (sa_lc rfl hN (si_seq sa_var) (blk_of (own := [("kind", 5)]) (by kernel_rfl)) rfl (fun _ _ _ _ _ => (sg_name hN)) (fun _ _ _ _ _ => (sts_one (st_cmp op_gt s_cmp (nomark _) (sa_call (ok__law_draw W) (hr.mono (by decide)) W.g__law_draw W.F__law_draw.kp W.b__law_draw (sas_cons sa_var (sas_cons sa_int sas_nil))) sa_int bl_cmp))) (fun _ _ _ _ _ => sa_var)) sas_nil)) hN) (sss_cons (ss_if (st_cmp (op_eqD (u64 hr)) s_eq (nomark _) (sa_callB call_lenAll s_len W.n_len (by decide +kernel) (sas_cons sa_var sas_nil)) sa_int bl_eq) (sss_cons (ss_set (sa_tup (sas_cons (sa_call (ok__law_pick W) (hr.mono (by decide)) W.g__law_pick W.F__law_pick.kp W.b__law_pick (sas_cons sa_var (sas_cons sa_var sas_nil))) sas_nil)) hN) sss_nil) sss_nil) (sss_cons (ss_expr (sa_meth PySem.F.slot_list_append PySem.F.type_list_append mt_append s_append (sas_cons sa_var sas_nil))) sss_nil)))) (sss_cons (ss_ret (sa_callTy call_tuple_ofF s_tuple W.n_tuple (by decide +kernel) (sas_cons sa_var sas_nil))) sss_nil))) : SSs _ _ m__law_drawn_box)
theorem sc__law_places : FnScope ["thing", "found", "waiting", "path", "here", "k"] ["thing"] (defScope (top 32)) := ⟨rfl, rfl, rfl, by decide +kernel, rfl, by decide +kernel, by decide +kernel⟩
theorem ok__law_places (W : Fx K mg) : FnOkG P w K mg base CX0 2 W.a__law_places W.d__law_places ["thing"] (spD K 1 c__law_places) :=
  fn_okD W.F__law_places sc__law_places rfl rfl fun cdv A outer s H E hr => (have hN := sc__law_places.nd; (sss_cons (ss_set (sa_lst sas_nil) hN) (sss_cons (ss_set (sa_lst (sas_cons (sa_tup (sas_cons (sa_tup sas_nil) (sas_cons sa_var sas_nil))) sas_nil)) hN) (sss_cons (ss_while 100000 PassesOwn.never (st_truth sa_var) (sss_cons (ss_asg (sa_meth0 PySem.F.slot_list_pop PySem.F.type_list_pop mt_pop s_pop0) (sg_tup rfl (sgs_cons (sg_name hN) (sgs_cons (sg_name hN) sgs_nil)))) (sss_cons (ss_if (st_truth (sa_isi (T := "tuple") W.n_isinstance W.n_tuple sa_var rfl)) (sss_cons (ss_expr (sa_meth PySem.F.slot_list_extend PySem.F.type_list_extend mt_extend s_extend (sas_cons (sa_lc rfl hN (si_range1 W.n_range (sa_callB call_lenAll s_len W.n_len (by decide +kernel) (sas_cons sa_var sas_nil))) (blk_of (own := [("k", 5)]) (by kernel_rfl)) rfl (fun _ _ _ _ _ => (sg_name hN)) (fun _ _ _ _ _ => sts_nil) (fun _ _ _ _ _ => (sa_tup (sas_cons (sa_bin op_addAll s_add sa_var (sa_tup (sas_cons sa_var sas_nil))) (sas_cons (sa_ix (u65 hr) sa_var sa_var) sas_nil))))) sas_nil))) sss_nil) (sss_cons (ss_if (st_truth (sa_call (ok__law_is_int W) (hr.mono (by decide)) W.g__law_is_int W.F__law_is_int.kp W.b__law_is_int (sas_cons sa_var sas_nil))) (sss_cons (ss_expr (sa_meth PySem.F.slot_list_append PySem.F.type_list_append mt_append s_append (sas_cons sa_var sas_nil))) sss_nil) sss_nil) sss_nil)) sss_nil))) (sss_cons (ss_ret (sa_callB (call_sortAll (u65 hr)) s_sort W.n_sorted (by decide +kernel) (sas_cons sa_var sas_nil))) sss_nil)))) : SSs _ _ m__law_places)
theorem sc__law_at : FnScope ["thing", "path", "here", "k"] ["thing", "path"] (defScope (top 33)) := ⟨rfl, rfl, rfl, by decide +kernel, rfl, by decide +kernel, by decide +kernel⟩
theorem ok__law_at (W : Fx K mg) : FnOkG P w K mg base CX0 1 W.a__law_at W.d__law_at ["thing", "path"] (spD K 2 c__law_at) :=
  fn_okD W.F__law_at sc__law_at rfl rfl fun cdv A outer s H E hr => (have hN := sc__law_at.nd; (sss_cons (ss_set sa_var hN) (sss_cons (ss_for PassesOwn.never rfl (si_seq sa_var) (sg_name hN) (sss_cons (ss_set (sa_ix (u65 hr) sa_var sa_var) hN) sss_nil)) (sss_cons (ss_ret sa_var) sss_nil))) : SSs _ _ m__law_at)
theorem sc__law_put : FnScope ["thing", "path", "new"] ["thing", "path", "new"] (defScope (top 34)) := ⟨rfl, rfl, rfl, by decide +kernel, rfl, by decide +kernel, by decide +kernel⟩
theorem okS__law_put (W : Fx K mg) : ∀ n : Nat, (FnOkG P w K mg base CX0 (0 + n) W.a__law_put W.d__law_put ["thing", "path", "new"] (spD K 3 (c__law_put n)))
  | 0 => FnOkG.bad
  | n + 1 => have ih := okS__law_put W n; fn_okD (k := 0 + n) W.F__law_put sc__law_put rfl rfl fun cdv A outer s H E hr => (have hN := sc__law_put.nd; (sss_cons (ss_if (st_not (st_truth sa_var)) (sss_cons (ss_ret sa_var) sss_nil) sss_nil) (sss_cons (ss_ret (sa_bin op_addAll s_add (sa_bin op_addAll s_add (sa_slice sa_var spo_none (spo_some (sa_ix (u65 hr) sa_var sa_int))) (sa_tup (sas_cons (sa_call (ih) (hr.mono (Nat.le_refl _)) W.g__law_put W.F__law_put.kp W.b__law_put (sas_cons (sa_ix (u65 hr) sa_var (sa_ix (u65 hr) sa_var sa_int)) (sas_cons (sa_slice sa_var (spo_some sa_int) spo_none) (sas_cons sa_var sas_nil)))) sas_nil) (hl := Nat.le_of_ble_eq_true rfl))) (sa_slice sa_var (spo_some (sa_bin op_addAll s_add (sa_ix (u65 hr) sa_var sa_int) sa_int)) spo_none))) sss_nil)) : SSs _ _ (m__law_put (c__law_put n)))
theorem ok__law_put (W : Fx K mg) : FnOkG P w K mg base CX0 (0 + 120) W.a__law_put W.d__law_put ["thing", "path", "new"] (spD K 3 (c__law_put 120)) := (okS__law_put W 120)
theorem sc__law_spoilt : FnScope ["d", "thing", "places", "path"] ["d", "thing"] (defScope (top 35)) := ⟨rfl, rfl, rfl, by decide +kernel, rfl, by decide +kernel, by decide +kernel⟩
theorem ok__law_spoilt (W : Fx K mg) : FnOkG P w K mg base CX0 121 W.a__law_spoilt W.d__law_spoilt ["d", "thing"] (spD K 2 c__law_spoilt) :=
  fn_okD W.F__law_spoilt sc__law_spoilt rfl rfl fun cdv A outer s H E hr => (have hN := sc__law_spoilt.nd; (sss_cons (ss_set (sa_call (ok__law_places W) (hr.mono (by decide)) W.g__law_places W.F__law_places.kp W.b__law_places (sas_cons sa_var sas_nil)) hN) (sss_cons (ss_if (st_not (st_truth sa_var)) (sss_cons (ss_ret sa_var) sss_nil) sss_nil) (sss_cons (ss_set (sa_call (ok__law_pick W) (hr.mono (by decide)) W.g__law_pick W.F__law_pick.kp W.b__law_pick (sas_cons sa_var (sas_cons sa_var sas_nil))) hN) (sss_cons (ss_ret (sa_call (ok__law_put W) (hr.mono (by decide)) W.g__law_put W.F__law_put.kp W.b__law_put (sas_cons sa_var (sas_cons sa_var (sas_cons (sa_bin op_addAll s_add (sa_call (ok__law_at W) (hr.mono (by decide)) W.g__law_at W.F__law_at.kp W.b__law_at (sas_cons sa_var (sas_cons sa_var sas_nil))) (sa_call (ok__law_pick W) (hr.mono (by decide)) W.g__law_pick W.F__law_pick.kp W.b__law_pick (sas_cons sa_var (sas_cons (sa_lst (sas_cons sa_int (sas_cons (sa_un un_neg s_neg sa_int) (sas_cons sa_int (sas_cons sa_int (sas_cons (sa_un un_neg s_neg sa_int) sas_nil)))))) sas_nil)))) sas_nil))))) sss_nil)))) : SSs _ _ m__law_spoilt)
theorem sc__law_node : FnScope ["hearing", "path", "node", "k"] ["hearing", "path"] (defScope (top 36)) := ⟨rfl, rfl, rfl, by decide +kernel, rfl, by decide +kernel, by decide +kernel⟩
theorem ok__law_node (W : Fx K mg) : FnOkG P w K mg base CX0 1 W.a__law_node W.d__law_node ["hearing", "path"] (spD K 2 c__law_node_k36) :=
  fn_okD W.F__law_node sc__law_node rfl rfl fun cdv A outer s H E hr => (have hN := sc__law_node.nd; (sss_cons (ss_set sa_var hN) (sss_cons (ss_for PassesOwn.never rfl (si_seq sa_var) (sg_name hN) (sss_cons (ss_set (sa_ix (u65 hr) (sa_ix (u65 hr) (sa_ix (u65 hr) sa_var sa_int) sa_var) sa_int) hN) sss_nil)) (sss_cons (ss_ret sa_var) sss_nil))) : SSs _ _ m__law_node_k36)
theorem sc__law_finest : FnScope ["box", "found", "person", "kind"] ["box"] (defScope (top 37)) := ⟨rfl, rfl, rfl, by decide +kernel, rfl, by decide +kernel, by decide +kernel⟩
theorem ok__law_finest (W : Fx K mg) : FnOkG P w K mg base CX0 1 W.a__law_finest W.d__law_finest ["box"] (spD K 1 c__law_finest_k36) :=
  fn_okD W.F__law_finest sc__law_finest rfl rfl fun cdv A outer s H E hr => (have hN := sc__law_finest.nd; (sss_cons (ss_set (sa_tup (sas_cons sa_str sas_nil)) hN) (sss_cons (ss_for PassesOwn.never rfl (si_range3 W.n_range (sas_cons (sa_bin op_sub s_sub (sa_callB call_lenAll s_len W.n_len (by decide +kernel) (sas_cons sa_var sas_nil)) sa_int) (sas_cons (sa_un un_neg s_neg sa_int) (sas_cons (sa_un un_neg s_neg sa_int) sas_nil)))) (sg_name hN) (sss_cons (ss_if (st_cmp op_gt s_cmp (nomark _) (sa_callB call_lenAll s_len W.n_len (by decide +kernel) (sas_cons (sa_ix (u65 hr) sa_var sa_var) sas_nil)) sa_int bl_cmp) (sss_cons (ss_set (sa_tup (sas_cons sa_str (sas_cons sa_var (sas_cons (sa_callTy call_tuple_ofF s_tuple W.n_tuple (by decide +kernel) (sas_cons (sa_lc rfl hN (si_seq (sa_ix (u65 hr) sa_var sa_var)) (blk_of (own := [("kind", 3)]) (by kernel_rfl)) rfl (fun _ _ _ _ _ => (sg_name hN)) (fun _ _ _ _ _ => sts_nil) (fun _ _ _ _ _ => (sa_tup (sas_cons (sa_tup (sas_cons sa_var sas_nil)) (sas_cons sa_var sas_nil))))) sas_nil)) sas_nil)))) hN) sss_nil) sss_nil) sss_nil)) (sss_cons (ss_ret sa_var) sss_nil))) : SSs _ _ m__law_finest_k36)
theorem sc__law_own : FnScope ["box", "hearing", "person", "found", "path", "here", "node"] ["box", "hearing", "person"] (defScope (top 38)) := ⟨rfl, rfl, rfl, by decide +kernel, rfl, by decide +kernel, by decide +kernel⟩
theorem ok__law_own (W : Fx K mg) : FnOkG P w K mg base CX0 3 W.a__law_own W.d__law_own ["box", "hearing", "person"] (spD K 3 c__law_own_k36) :=
  fn_okD W.F__law_own sc__law_own rfl rfl fun cdv A outer s H E hr => (have hN := sc__law_own.nd; (sss_cons (ss_set (sa_lst sas_nil) hN) (sss_cons (ss_for PassesOwn.never rfl (si_seq (sa_call (ok__law_nodes W) (hr.mono (by decide)) W.g__law_nodes W.F__law_nodes.kp W.b__law_nodes (sas_cons sa_var (sas_cons sa_var sas_nil)))) (sg_tup rfl (sgs_cons (sg_name hN) (sgs_cons (sg_name hN) (sgs_cons (sg_name hN) sgs_nil)))) (sss_cons (ss_if (sw_and (st_cmp (op_eqD (u64 hr)) s_eq (nomark _) (sa_ix (u65 hr) sa_var sa_int) sa_str bl_eq) (sw_and1 (st_cmp (op_eqD (u64 hr)) s_eq (nomark _) (sa_ix (u65 hr) sa_var sa_int) sa_var bl_eq))).st (sss_cons (ss_expr (sa_meth PySem.F.slot_list_append PySem.F.type_list_append mt_append s_append (sas_cons (sa_tup (sas_cons sa_var (sas_cons (sa_callB call_lenAll s_len W.n_len (by decide +kernel) (sas_cons (sa_ix (u65 hr) sa_var sa_int) sas_nil)) sas_nil))) sas_nil))) sss_nil) sss_nil) sss_nil)) (sss_cons (ss_ret sa_var) sss_nil))) : SSs _ _ m__law_own_k36)
theorem sc__law_own_truthful : FnScope ["box", "hearing", "person", "kind", "found", "path", "here", "node", "k"] ["box", "hearing", "person", "kind"] (defScope (top 39)) := ⟨rfl, rfl, rfl, by decide +kernel, rfl, by decide +kernel, by decide +kernel⟩
theorem ok__law_own_truthful (W : Fx K mg) : FnOkG P w K mg base CX0 3 W.a__law_own_truthful W.d__law_own_truthful ["box", "hearing", "person", "kind"] (spD K 4 c__law_own_truthful) :=
  fn_okD W.F__law_own_truthful sc__law_own_truthful rfl rfl fun cdv A outer s H E hr => (have hN := sc__law_own_truthful.nd; (sss_cons (ss_set (sa_lst sas_nil) hN) (sss_cons (ss_for PassesOwn.never rfl (si_seq (sa_call (ok__law_nodes W) (hr.mono (by decide)) W.g__law_nodes W.F__law_nodes.kp W.b__law_nodes (sas_cons sa_var (sas_cons sa_var sas_nil)))) (sg_tup rfl (sgs_cons (sg_name hN) (sgs_cons (sg_name hN) (sgs_cons (sg_name hN) sgs_nil)))) (sss_cons (ss_if (sw_and (st_cmp (op_eqD (u64 hr)) s_eq (nomark _) (sa_ix (u65 hr) sa_var sa_int) sa_str bl_eq) (sw_and (st_cmp (op_eqD (u64 hr)) s_eq (nomark _) (sa_ix (u65 hr) sa_var sa_int) sa_var bl_eq) (sw_and1 (st_cmp (op_inAll (u65 hr)) s_in (by rfl) sa_var (sa_ix (u65 hr) sa_var sa_var) bl_in)))).st (sss_cons (ss_expr (sa_meth PySem.F.slot_list_append PySem.F.type_list_append mt_append s_append (sas_cons (sa_tup (sas_cons sa_var (sas_cons (sa_ix (u65 hr) (sa_lc rfl hN (si_range1 W.n_range (sa_callB call_lenAll s_len W.n_len (by decide +kernel) (sas_cons (sa_ix (u65 hr) sa_var sa_int) sas_nil))) (blk_of (own := [("k", 8)]) (by kernel_rfl)) rfl (fun _ _ _ _ _ => (sg_name hN)) (fun _ _ _ _ _ => (sts_one (st_cmp (op_inAll (u65 hr)) s_in (by rfl) sa_var (sa_ix (u65 hr) (sa_ix (u65 hr) (sa_ix (u65 hr) sa_var sa_int) sa_var) sa_int) bl_in))) (fun _ _ _ _ _ => sa_var)) sa_int) sas_nil))) sas_nil))) sss_nil) sss_nil) sss_nil)) (sss_cons (ss_ret (sa_callTy call_tuple_ofF s_tuple W.n_tuple (by decide +kernel) (sas_cons sa_var sas_nil))) sss_nil))) : SSs _ _ m__law_own_truthful)
theorem sc__law_judged : FnScope ["own", "thing", "paths", "path", "many", "last", "branch"] ["own", "thing"] (defScope (top 40)) := ⟨rfl, rfl, rfl, by decide +kernel, rfl, by decide +kernel, by decide +kernel⟩
theorem ok__law_judged (W : Fx K mg) : FnOkG P w K mg base CX0 1 W.a__law_judged W.d__law_judged ["own", "thing"] (spD K 2 c__law_judged) :=
  fn_okD W.F__law_judged sc__law_judged rfl rfl fun cdv A outer s H E hr => (have hN := sc__law_judged.nd; (sss_cons (ss_setLc rfl hN (si_seq sa_var) (blk_of (own := [("path", 3), ("many", 4)]) (by kernel_rfl)) rfl (fun _ _ _ _ _ => (sg_tup rfl (sgs_cons (sg_name hN) (sgs_cons (sg_name hN) sgs_nil)))) (fun _ _ _ _ _ => sts_nil) (fun _ _ _ _ _ => sa_var)) (sss_cons (ss_set sa_non hN) (sss_cons (ss_for PassesOwn.never rfl (si_seq sa_var) (sg_tup rfl (sgs_cons (sg_name hN) (sgs_cons (sg_name hN) sgs_nil))) (sss_cons (ss_if (sw_or (st_cmp (op_notInAll (u65 hr)) s_notIn (by rfl) sa_var sa_var bl_in) (sw_or1 (st_not (st_chain op_le op_lt s_cmp s_cmp sa_int sa_var (sa_ix (u65 hr) (sa_ix (u65 hr) sa_var (sa_index (u65 hr) sa_var sa_var)) sa_int) bl_cmp)))).st (sss_cons (ss_ret sa_bl) sss_nil) sss_nil) (sss_cons (ss_if (sw_and (st_cmp op_notN s_notN (nomark _) sa_var sa_non bl_notN) (sw_and1 (st_not (st_cmp (oq_ltT (u0 hr)) s_ltT (nomark _) sa_var sa_var bl_TT)))).st (sss_cons (ss_ret sa_bl) sss_nil) sss_nil) (sss_cons (ss_set sa_var hN) sss_nil)))) (sss_cons (ss_ret sa_bl) sss_nil)))) : SSs _ _ m__law_judged)
theorem sc__law_from_behind : FnScope ["d", "hearing", "path", "k", "many"] ["d", "hearing", "path"] (defScope (top 41)) := ⟨rfl, rfl, rfl, by decide +kernel, rfl, by decide +kernel, by decide +kernel⟩
theorem ok__law_from_behind (W : Fx K mg) : FnOkG P w K mg base CX0 2 W.a__law_from_behind W.d__law_from_behind ["d", "hearing", "path"] (spD K 3 c__law_from_behind) :=
  fn_okD W.F__law_from_behind sc__law_from_behind rfl rfl fun cdv A outer s H E hr => (have hN := sc__law_from_behind.nd; (sss_cons (ss_if (st_not (st_truth sa_var)) (sss_cons (ss_ret (sa_tup (sas_cons (sa_un un_neg s_neg sa_int) sas_nil))) sss_nil) sss_nil) (sss_cons (ss_set (sa_call (ok__law_draw W) (hr.mono (by decide)) W.g__law_draw W.F__law_draw.kp W.b__law_draw (sas_cons sa_var (sas_cons (sa_callB call_lenAll s_len W.n_len (by decide +kernel) (sas_cons sa_var sas_nil)) sas_nil))) hN) (sss_cons (ss_set (sa_callB call_lenAll s_len W.n_len (by decide +kernel) (sas_cons (sa_ix (u65 hr) (sa_call (ok__law_node W) (hr.mono (by decide)) W.g__law_node W.F__law_node.kp W.b__law_node (sas_cons sa_var (sas_cons (sa_slice sa_var spo_none (spo_some sa_var)) sas_nil))) sa_int) sas_nil)) hN) (sss_cons (ss_ret (sa_bin op_addAll s_add (sa_bin op_addAll s_add (sa_slice sa_var spo_none (spo_some sa_var)) (sa_tup (sas_cons (sa_bin op_sub s_sub (sa_ix (u65 hr) sa_var sa_var) sa_var) sas_nil))) (sa_slice sa_var (spo_some (sa_bin op_addAll s_add sa_var sa_int)) spo_none))) sss_nil)))) : SSs _ _ m__law_from_behind)
theorem sc__law_near_one : FnScope ["d", "hearing", "path", "many", "found"] ["d", "hearing", "path", "many"] (defScope (top 42)) := ⟨rfl, rfl, rfl, by decide +kernel, rfl, by decide +kernel, by decide +kernel⟩
theorem ok__law_near_one (W : Fx K mg) : FnOkG P w K mg base CX0 3 W.a__law_near_one W.d__law_near_one ["d", "hearing", "path", "many"] (spD K 4 c__law_near_one) :=
  fn_okD W.F__law_near_one sc__law_near_one rfl rfl fun cdv A outer s H E hr => (have hN := sc__law_near_one.nd; (sss_cons (ss_set (sa_lst (sas_cons (sa_tup (sas_cons (sa_tup (sas_cons sa_var (sas_cons sa_var sas_nil))) sas_nil)) (sas_cons (sa_tup (sas_cons (sa_tup (sas_cons sa_var (sas_cons (sa_bin op_sub s_sub sa_var sa_int) sas_nil))) sas_nil)) (sas_cons (sa_tup (sas_cons (sa_tup (sas_cons sa_var (sas_cons (sa_un un_neg s_neg sa_int) sas_nil))) sas_nil)) (sas_cons (sa_tup (sas_cons (sa_tup (sas_cons sa_var (sas_cons (sa_bin op_pow s_pow sa_int sa_int) sas_nil))) sas_nil)) (sas_cons (sa_tup (sas_cons (sa_tup (sas_cons sa_var (sas_cons (sa_bin op_sub s_sub sa_int sa_var) sas_nil))) sas_nil)) sas_nil)))))) hN) (sss_cons (ss_expr (sa_meth PySem.F.slot_list_append PySem.F.type_list_append mt_append s_append (sas_cons (sa_tup (sas_cons (sa_tup (sas_cons sa_var (sas_cons sa_int sas_nil))) (sas_cons (sa_tup (sas_cons sa_var (sas_cons sa_int sas_nil))) sas_nil))) sas_nil))) (sss_cons (ss_expr (sa_meth PySem.F.slot_list_append PySem.F.type_list_append mt_append s_append (sas_cons (sa_tup (sas_cons (sa_tup (sas_cons sa_var (sas_cons (sa_bin op_sub s_sub sa_var sa_int) sas_nil))) (sas_cons (sa_tup (sas_cons sa_var (sas_cons (sa_bin op_sub s_sub sa_var sa_int) sas_nil))) sas_nil))) sas_nil))) (sss_cons (ss_expr (sa_meth PySem.F.slot_list_append PySem.F.type_list_append mt_append s_append (sas_cons (sa_tup (sas_cons (sa_tup (sas_cons (sa_bin op_addAll s_add sa_var (sa_tup (sas_cons sa_int sas_nil))) (sas_cons sa_int sas_nil))) sas_nil)) sas_nil))) (sss_cons (ss_expr (sa_meth PySem.F.slot_list_append PySem.F.type_list_append mt_append s_append (sas_cons (sa_tup (sas_cons (sa_tup (sas_cons (sa_bin op_addAll s_add sa_var (sa_tup (sas_cons sa_var sas_nil))) (sas_cons sa_int sas_nil))) sas_nil)) sas_nil))) (sss_cons (ss_expr (sa_meth PySem.F.slot_list_append PySem.F.type_list_append mt_append s_append (sas_cons (sa_tup (sas_cons (sa_tup (sas_cons (sa_slice sa_var spo_none (spo_some (sa_un un_neg s_neg sa_int))) (sas_cons sa_int sas_nil))) sas_nil)) sas_nil))) (sss_cons (ss_expr (sa_meth PySem.F.slot_list_append PySem.F.type_list_append mt_append s_append (sas_cons (sa_tup (sas_cons (sa_tup (sas_cons (sa_call (ok__law_from_behind W) (hr.mono (by decide)) W.g__law_from_behind W.F__law_from_behind.kp W.b__law_from_behind (sas_cons sa_var (sas_cons sa_var (sas_cons sa_var sas_nil)))) (sas_cons sa_int sas_nil))) sas_nil)) sas_nil))) (sss_cons (ss_expr (sa_meth PySem.F.slot_list_append PySem.F.type_list_append mt_append s_append (sas_cons (sa_tup (sas_cons (sa_tup (sas_cons sa_var (sas_cons sa_int sas_nil))) (sas_cons (sa_tup (sas_cons (sa_bin op_addAll s_add sa_var (sa_tup (sas_cons (sa_bin op_pow s_pow sa_int sa_int) sas_nil))) (sas_cons sa_int sas_nil))) sas_nil))) sas_nil))) (sss_cons (ss_ret sa_var) sss_nil))))))))) : SSs _ _ m__law_near_one)
theorem sc__law_near : FnScope ["d", "hearing", "own", "every", "right", "other", "found", "path", "many", "k"] ["d", "hearing", "own", "every", "right"] (defScope (top 43)) := ⟨rfl, rfl, rfl, by decide +kernel, rfl, by decide +kernel, by decide +kernel⟩
theorem ok__law_near (W : Fx K mg) : FnOkG P w K mg base CX0 122 W.a__law_near W.d__law_near ["d", "hearing", "own", "every", "right"] (spD K 5 c__law_near_k36) :=
  fn_okD W.F__law_near sc__law_near rfl rfl fun cdv A outer s H E hr => (have hN := sc__law_near.nd; (sss_cons (ss_set (sa_call (ok__law_pick W) (hr.mono (by decide)) W.g__law_pick W.F__law_pick.kp W.b__law_pick (sas_cons sa_var (sas_cons sa_var sas_nil))) hN) (sss_cons (ss_set (sa_lst (sas_cons (sa_tup sas_nil) (sas_cons sa_var (sas_cons (sa_bin op_addAll s_add sa_var (sa_tup (sas_cons (sa_tup (sas_cons sa_var (sas_cons sa_int sas_nil))) sas_nil))) (sas_cons (sa_tup (sas_cons (sa_tup (sas_cons (sa_tup (sas_cons (sa_bin op_pow s_pow sa_int sa_int) sas_nil)) (sas_cons sa_int sas_nil))) sas_nil)) (sas_cons (sa_tup (sas_cons (sa_tup (sas_cons (sa_tup (sas_cons (sa_un un_neg s_neg (sa_bin op_pow s_pow sa_int sa_int)) sas_nil)) (sas_cons sa_int sas_nil))) sas_nil)) sas_nil)))))) hN) (sss_cons (ss_expr (sa_meth PySem.F.slot_list_append PySem.F.type_list_append mt_append s_append (sas_cons (sa_callTy call_tuple_ofF s_tuple W.n_tuple (by decide +kernel) (sas_cons (sa_callB (cr_sortedKT (u65 hr)) s_sortKT W.n_sorted (by decide +kernel) (sas_cons (sa_bin op_addAll s_add sa_var (sa_tup (sas_cons (sa_tup (sas_cons sa_var (sas_cons (sa_call (ok__law_draw W) (hr.mono (by decide)) W.g__law_draw W.F__law_draw.kp W.b__law_draw (sas_cons sa_var (sas_cons sa_int sas_nil))) sas_nil))) sas_nil))) sas_nil)) sas_nil)) sas_nil))) (sss_cons (ss_if (st_truth sa_var) (sss_cons (ss_asg (sa_call (ok__law_pick W) (hr.mono (by decide)) W.g__law_pick W.F__law_pick.kp W.b__law_pick (sas_cons sa_var (sas_cons sa_var sas_nil))) (sg_tup rfl (sgs_cons (sg_name hN) (sgs_cons (sg_name hN) sgs_nil)))) (sss_cons (ss_expr (sa_meth PySem.F.slot_list_extend PySem.F.type_list_extend mt_extend s_extend (sas_cons (sa_call (ok__law_near_one W) (hr.mono (by decide)) W.g__law_near_one W.F__law_near_one.kp W.b__law_near_one (sas_cons sa_var (sas_cons sa_var (sas_cons sa_var (sas_cons sa_var sas_nil))))) sas_nil))) (sss_cons (ss_expr (sa_meth PySem.F.slot_list_append PySem.F.type_list_append mt_append s_append (sas_cons (sa_callTy call_tuple_ofF s_tuple W.n_tuple (by decide +kernel) (sas_cons (sa_callB (cr_sortedKT (u65 hr)) s_sortKT W.n_sorted (by decide +kernel) (sas_cons (sa_bin op_addAll s_add sa_var (sa_tup (sas_cons (sa_tup (sas_cons (sa_call (ok__law_from_behind W) (hr.mono (by decide)) W.g__law_from_behind W.F__law_from_behind.kp W.b__law_from_behind (sas_cons sa_var (sas_cons sa_var (sas_cons sa_var sas_nil)))) (sas_cons sa_int sas_nil))) sas_nil))) sas_nil)) sas_nil)) sas_nil))) sss_nil))) sss_nil) (sss_cons (ss_if (st_cmp op_gt s_cmp (nomark _) (sa_callB call_lenAll s_len W.n_len (by decide +kernel) (sas_cons sa_var sas_nil)) sa_int bl_cmp) (sss_cons (ss_set (sa_call (ok__law_draw W) (hr.mono (by decide)) W.g__law_draw W.F__law_draw.kp W.b__law_draw (sas_cons sa_var (sas_cons (sa_callB call_lenAll s_len W.n_len (by decide +kernel) (sas_cons sa_var sas_nil)) sas_nil))) hN) (sss_cons (ss_expr (sa_meth PySem.F.slot_list_append PySem.F.type_list_append mt_append s_append (sas_cons (sa_bin op_addAll s_add (sa_slice sa_var spo_none (spo_some sa_var)) (sa_slice sa_var (spo_some (sa_bin op_addAll s_add sa_var sa_int)) spo_none)) sas_nil))) (sss_cons (ss_expr (sa_meth PySem.F.slot_list_append PySem.F.type_list_append mt_append s_append (sas_cons (sa_bin op_addAll s_add (sa_slice sa_var spo_none (spo_some (sa_bin op_addAll s_add sa_var sa_int))) (sa_slice sa_var (spo_some sa_var) spo_none)) sas_nil))) (sss_cons (ss_expr (sa_meth PySem.F.slot_list_append PySem.F.type_list_append mt_append s_append (sas_cons (sa_bin op_addAll s_add sa_var (sa_tup (sas_cons (sa_ix (u65 hr) sa_var sa_var) sas_nil))) sas_nil))) (sss_cons (ss_expr (sa_meth PySem.F.slot_list_append PySem.F.type_list_append mt_append s_append (sas_cons (sa_bin op_addAll s_add (sa_bin op_addAll s_add (sa_slice sa_var spo_none (spo_some sa_var)) (sa_tup (sas_cons (sa_tup (sas_cons (sa_ix (u65 hr) (sa_ix (u65 hr) sa_var sa_var) sa_int) (sas_cons (sa_bin op_addAll s_add (sa_ix (u65 hr) (sa_ix (u65 hr) sa_var sa_var) sa_int) sa_int) sas_nil))) sas_nil))) (sa_slice sa_var (spo_some (sa_bin op_addAll s_add sa_var sa_int)) spo_none)) sas_nil))) sss_nil))))) sss_nil) (sss_cons (ss_if (st_cmp op_gt s_cmp (nomark _) (sa_callB call_lenAll s_len W.n_len (by decide +kernel) (sas_cons sa_var sas_nil)) sa_int bl_cmp) (sss_cons (ss_set (sa_call (ok__law_draw W) (hr.mono (by decide)) W.g__law_draw W.F__law_draw.kp W.b__law_draw (sas_cons sa_var (sas_cons (sa_bin op_sub s_sub (sa_callB call_lenAll s_len W.n_len (by decide +kernel) (sas_cons sa_var sas_nil)) sa_int) sas_nil))) hN) (sss_cons (ss_expr (sa_meth PySem.F.slot_list_append PySem.F.type_list_append mt_append s_append (sas_cons (sa_bin op_addAll s_add (sa_bin op_addAll s_add (sa_slice sa_var spo_none (spo_some sa_var)) (sa_tup (sas_cons (sa_ix (u65 hr) sa_var (sa_bin op_addAll s_add sa_var sa_int)) (sas_cons (sa_ix (u65 hr) sa_var sa_var) sas_nil)))) (sa_slice sa_var (spo_some (sa_bin op_addAll s_add sa_var sa_int)) spo_none)) sas_nil))) (sss_cons (ss_expr (sa_meth PySem.F.slot_list_append PySem.F.type_list_append mt_append s_append (sas_cons (sa_bin op_addAll s_add (sa_bin op_addAll s_add (sa_tup (sas_cons (sa_ix (u65 hr) sa_var (sa_un un_neg s_neg sa_int)) sas_nil)) (sa_slice sa_var (spo_some sa_int) (spo_some (sa_un un_neg s_neg sa_int)))) (sa_tup (sas_cons (sa_ix (u65 hr) sa_var sa_int) sas_nil))) sas_nil))) (sss_cons (ss_expr (sa_meth PySem.F.slot_list_append PySem.F.type_list_append mt_append s_append (sas_cons (sa_bin op_addAll s_add (sa_bin op_addAll s_add (sa_slice sa_var spo_none (spo_some sa_var)) (sa_tup (sas_cons (sa_tup (sas_cons (sa_ix (u65 hr) (sa_ix (u65 hr) sa_var sa_var) sa_int) (sas_cons (sa_ix (u65 hr) (sa_ix (u65 hr) sa_var (sa_bin op_addAll s_add sa_var sa_int)) sa_int) sas_nil))) (sas_cons (sa_tup (sas_cons (sa_ix (u65 hr) (sa_ix (u65 hr) sa_var (sa_bin op_addAll s_add sa_var sa_int)) sa_int) (sas_cons (sa_ix (u65 hr) (sa_ix (u65 hr) sa_var sa_var) sa_int) sas_nil))) sas_nil)))) (sa_slice sa_var (spo_some (sa_bin op_addAll s_add sa_var sa_int)) spo_none)) sas_nil))) sss_nil)))) sss_nil) (sss_cons (ss_expr (sa_meth PySem.F.slot_list_extend PySem.F.type_list_extend mt_extend s_extend (sas_cons (sa_lc rfl hN (si_range1 W.n_range sa_int) (blk_of (own := [("k", 9)]) (by kernel_rfl)) rfl (fun _ _ _ _ _ => (sg_name hN)) (fun _ _ _ _ _ => sts_nil) (fun _ _ _ _ _ => (sa_call (ok__law_spoilt W) (hr.mono (by decide)) W.g__law_spoilt W.F__law_spoilt.kp W.b__law_spoilt (sas_cons sa_var (sas_cons sa_var sas_nil))))) sas_nil))) (sss_cons (ss_ret sa_var) sss_nil)))))))) : SSs _ _ m__law_near_k36)
theorem sc__law_asked : FnScope ["box", "hearing", "person", "own", "things", "thing", "told"] ["box", "hearing", "person", "own", "things"] (defScope (top 44)) := ⟨rfl, rfl, rfl, by decide +kernel, rfl, by decide +kernel, by decide +kernel⟩
theorem ok__law_asked (W : Fx K mg) : FnOkG P w K mg base CX0 36 W.a__law_asked W.d__law_asked ["box", "hearing", "person", "own", "things"] (spD K 5 c__law_asked_k36) :=
  fn_okD W.F__law_asked sc__law_asked rfl rfl fun cdv A outer s H E hr => (have hN := sc__law_asked.nd; (sss_cons (ss_for PassesOwn.never rfl (si_seq sa_var) (sg_name hN) (sss_cons (ss_set (sa_call (ok_is_strategy W) (hr.mono (by decide)) W.g_is_strategy W.F_is_strategy.kp W.b_is_strategy (sas_cons sa_var (sas_cons sa_var (sas_cons sa_var (sas_cons sa_var sas_nil))))) hN) (sss_cons (ss_if (sw_or (st_not (st_truth (sa_isi (T := "bool") W.n_isinstance W.n_bool sa_var rfl))) (sw_or1 (st_cmp (op_neD (u64 hr)) s_ne (nomark _) sa_var (sa_call (ok__law_judged W) (hr.mono (by decide)) W.g__law_judged W.F__law_judged.kp W.b__law_judged (sas_cons sa_var (sas_cons sa_var sas_nil))) bl_ne))).st (sss_cons (ss_ret sa_bl) sss_nil) sss_nil) sss_nil))) (sss_cons (ss_ret sa_bl) sss_nil)) : SSs _ _ m__law_asked_k36)
theorem sc__law_are_truthful : FnScope ["box", "hearing", "person", "kind", "told", "pair"] ["box", "hearing", "person"] (defScope (top 45)) := ⟨rfl, rfl, rfl, by decide +kernel, rfl, by decide +kernel, by decide +kernel⟩
theorem ok__law_are_truthful (W : Fx K mg) : FnOkG P w K mg base CX0 35 W.a__law_are_truthful W.d__law_are_truthful ["box", "hearing", "person"] (spD K 3 c__law_are_truthful) :=
  fn_okD W.F__law_are_truthful sc__law_are_truthful rfl rfl fun cdv A outer s H E hr => (have hN := sc__law_are_truthful.nd; (sss_cons (ss_for PassesOwn.never rfl (si_seq (sa_ix (u65 hr) sa_var sa_var)) (sg_name hN) (sss_cons (ss_set (sa_call (ok_truthful W) (hr.mono (by decide)) W.g_truthful W.F_truthful.kp W.b_truthful (sas_cons sa_var (sas_cons sa_var (sas_cons sa_var (sas_cons sa_var sas_nil))))) hN) (sss_cons (ss_if (sw_or (st_not (st_truth (sa_isi (T := "tuple") W.n_isinstance W.n_tuple sa_var rfl))) (sw_or1 (st_not (st_truth (sa_callB (cr_all rfl) s_all W.n_all (by decide +kernel) (sas_cons (sa_lc rfl hN (si_seq sa_var) (blk_of (own := [("pair", 5)]) (by kernel_rfl)) rfl (fun _ _ _ _ _ => (sg_name hN)) (fun _ _ _ _ _ => sts_nil) (fun _ _ _ _ _ => (sa_call (ok__law_is_pair W) (hr.mono (by decide)) W.g__law_is_pair W.F__law_is_pair.kp W.b__law_is_pair (sas_cons sa_var sas_nil)))) sas_nil)))))).st (sss_cons (ss_ret sa_bl) sss_nil) sss_nil) (sss_cons (ss_if (st_not (st_truth (sa_callB (cr_all rfl) s_all W.n_all (by decide +kernel) (sas_cons (sa_lc rfl hN (si_seq sa_var) (blk_of (own := [("pair", 5)]) (by kernel_rfl)) rfl (fun _ _ _ _ _ => (sg_name hN)) (fun _ _ _ _ _ => sts_nil) (fun _ _ _ _ _ => (sa_and (sa_call (ok__law_is_ints W) (hr.mono (by decide)) W.g__law_is_ints W.F__law_is_ints.kp W.b__law_is_ints (sas_cons (sa_ix (u65 hr) sa_var sa_int) sas_nil)) (sa_one (sa_call (ok__law_is_int W) (hr.mono (by decide)) W.g__law_is_int W.F__law_is_int.kp W.b__law_is_int (sas_cons (sa_ix (u65 hr) sa_var sa_int) sas_nil)))))) sas_nil)))) (sss_cons (ss_ret sa_bl) sss_nil) sss_nil) (sss_cons (ss_if (st_cmp (op_neD (u64 hr)) s_ne (nomark _) sa_var (sa_call (ok__law_own_truthful W) (hr.mono (by decide)) W.g__law_own_truthful W.F__law_own_truthful.kp W.b__law_own_truthful (sas_cons sa_var (sas_cons sa_var (sas_cons sa_var (sas_cons sa_var sas_nil))))) bl_ne) (sss_cons (ss_ret sa_bl) sss_nil) sss_nil) sss_nil))))) (sss_cons (ss_ret sa_bl) sss_nil)) : SSs _ _ m__law_are_truthful)
theorem sc__law_drawn_pairs : FnScope ["d", "own", "found", "path", "many"] ["d", "own"] (defScope (top 46)) := ⟨rfl, rfl, rfl, by decide +kernel, rfl, by decide +kernel, by decide +kernel⟩
theorem ok__law_drawn_pairs (W : Fx K mg) : FnOkG P w K mg base CX0 2 W.a__law_drawn_pairs W.d__law_drawn_pairs ["d", "own"] (spD K 2 c__law_drawn_pairs) :=
  fn_okD W.F__law_drawn_pairs sc__law_drawn_pairs rfl rfl fun cdv A outer s H E hr => (have hN := sc__law_drawn_pairs.nd; (sss_cons (ss_set (sa_lst sas_nil) hN) (sss_cons (ss_for PassesOwn.never rfl (si_seq sa_var) (sg_tup rfl (sgs_cons (sg_name hN) (sgs_cons (sg_name hN) sgs_nil))) (sss_cons (ss_if (st_cmp op_gt s_cmp (nomark _) (sa_call (ok__law_draw W) (hr.mono (by decide)) W.g__law_draw W.F__law_draw.kp W.b__law_draw (sas_cons sa_var (sas_cons sa_int sas_nil))) sa_int bl_cmp) (sss_cons (ss_expr (sa_meth PySem.F.slot_list_append PySem.F.type_list_append mt_append s_append (sas_cons (sa_tup (sas_cons sa_var (sas_cons (sa_call (ok__law_draw W) (hr.mono (by decide)) W.g__law_draw W.F__law_draw.kp W.b__law_draw (sas_cons sa_var (sas_cons sa_var sas_nil))) sas_nil))) sas_nil))) sss_nil) sss_nil) sss_nil)) (sss_cons (ss_ret (sa_callTy call_tuple_ofF s_tuple W.n_tuple (by decide +kernel) (sas_cons sa_var sas_nil))) sss_nil))) : SSs _ _ m__law_drawn_pairs)
theorem sc__law_world : FnScope ["d", "box", "many"] ["d"] (defScope (top 47)) := ⟨rfl, rfl, rfl, by decide +kernel, rfl, by decide +kernel, by decide +kernel⟩
theorem ok__law_world (W : Fx K mg) : FnOkG P w K mg base CX0 33 W.a__law_world W.d__law_world ["d"] (spD K 1 c__law_world_k36) :=
  fn_okD W.F__law_world sc__law_world rfl rfl fun cdv A outer s H E hr => (have hN := sc__law_world.nd; (sss_cons (ss_if (st_truth (sa_call (ok__law_rare W) (hr.mono (by decide)) W.g__law_rare W.F__law_rare.kp W.b__law_rare (sas_cons sa_var (sas_cons sa_int sas_nil)))) (sss_cons (ss_set (sa_callTy call_tuple_ofF s_tuple W.n_tuple (by decide +kernel) (sas_cons (sa_lc rfl hN (si_seq (sa_call (ok__law_pick W) (hr.mono (by decide)) W.g__law_pick W.F__law_pick.kp W.b__law_pick (sas_cons sa_var (sas_cons (sa_lst (sas_cons (sa_tup (sas_cons sa_int (sas_cons sa_int (sas_cons sa_int (sas_cons sa_int sas_nil))))) (sas_cons (sa_tup (sas_cons sa_int (sas_cons sa_int (sas_cons sa_int sas_nil)))) (sas_cons (sa_tup (sas_cons sa_int (sas_cons sa_int (sas_cons sa_int (sas_cons sa_int sas_nil))))) (sas_cons (sa_tup (sas_cons sa_int (sas_cons sa_int (sas_cons sa_int sas_nil)))) sas_nil))))) sas_nil)))) (blk_of (own := [("many", 2)]) (by kernel_rfl)) rfl (fun _ _ _ _ _ => (sg_name hN)) (fun _ _ _ _ _ => sts_nil) (fun _ _ _ _ _ => (sa_tupRg rfl W.n_tuple (srg_1 W.n_range sa_var)))) sas_nil)) hN) (sss_cons (ss_ret (sa_tup (sas_cons sa_var (sas_cons (sa_call (ok__law_finest W) (hr.mono (by decide)) W.g__law_finest W.F__law_finest.kp W.b__law_finest (sas_cons sa_var sas_nil)) (sas_cons (sa_call (ok__law_hearing W) (hr.mono (by decide)) W.g__law_hearing W.F__law_hearing.kp W.b__law_hearing (sas_cons sa_var (sas_cons sa_var (sas_cons sa_int sas_nil)))) sas_nil))))) sss_nil)) sss_nil) (sss_cons (ss_set (sa_callTy call_tuple_ofF s_tuple W.n_tuple (by decide +kernel) (sas_cons (sa_lc rfl hN (si_seq (sa_call (ok__law_sizes W) (hr.mono (by decide)) W.g__law_sizes W.F__law_sizes.kp W.b__law_sizes (sas_cons sa_var (sas_cons sa_int sas_nil)))) (blk_of (own := [("many", 2)]) (by kernel_rfl)) rfl (fun _ _ _ _ _ => (sg_name hN)) (fun _ _ _ _ _ => sts_nil) (fun _ _ _ _ _ => (sa_tupRg rfl W.n_tuple (srg_1 W.n_range sa_var)))) sas_nil)) hN) (sss_cons (ss_if (st_cmp (op_eqD (u64 hr)) s_eq (nomark _) (sa_call (ok__law_draw W) (hr.mono (by decide)) W.g__law_draw W.F__law_draw.kp W.b__law_draw (sas_cons sa_var (sas_cons sa_int sas_nil))) sa_int bl_eq) (sss_cons (ss_set (sa_call (ok__law_drawn_box W) (hr.mono (by decide)) W.g__law_drawn_box W.F__law_drawn_box.kp W.b__law_drawn_box (sas_cons sa_var (sas_cons sa_var sas_nil))) hN) sss_nil) sss_nil) (sss_cons (ss_set (sa_call (ok__law_pick W) (hr.mono (by decide)) W.g__law_pick W.F__law_pick.kp W.b__law_pick (sas_cons sa_var (sas_cons (sa_lst (sas_cons sa_int (sas_cons sa_int (sas_cons sa_int (sas_cons sa_int sas_nil))))) sas_nil))) hN) (sss_cons (ss_ret (sa_tup (sas_cons sa_var (sas_cons (sa_call (ok__law_hearing W) (hr.mono (by decide)) W.g__law_hearing W.F__law_hearing.kp W.b__law_hearing (sas_cons sa_var (sas_cons sa_var (sas_cons sa_var sas_nil)))) (sas_cons (sa_call (ok__law_hearing W) (hr.mono (by decide)) W.g__law_hearing W.F__law_hearing.kp W.b__law_hearing (sas_cons sa_var (sas_cons sa_var (sas_cons sa_int sas_nil)))) sas_nil))))) sss_nil))))) : SSs _ _ m__law_world_k36)
theorem sc_law : FnScope ["script", "d", "box", "hearing", "second", "every", "path", "here", "node", "persons", "person", "own", "elsewhere", "rights", "many", "things", "other"] ["script"] (defScope (top 48)) := ⟨rfl, rfl, rfl, by decide +kernel, rfl, by decide +kernel, by decide +kernel⟩
theorem ok_law (W : Fx K mg) : FnOkG P w K mg base CX0 123 W.a_law W.d_law ["script"] (spD K 1 c_law_k36) :=
  fn_okD W.F_law sc_law rfl rfl fun cdv A outer s H E hr => (have hN := sc_law.nd; (sss_cons (ss_set (sa_call (ok__law_begin W) (hr.mono (by decide)) W.g__law_begin W.F__law_begin.kp W.b__law_begin (sas_cons sa_var sas_nil)) hN) (sss_cons (ss_asg (sa_call (ok__law_world W) (hr.mono (by decide)) W.g__law_world W.F__law_world.kp W.b__law_world (sas_cons sa_var sas_nil)) (sg_tup rfl (sgs_cons (sg_name hN) (sgs_cons (sg_name hN) (sgs_cons (sg_name hN) sgs_nil))))) (sss_cons (ss_setLc rfl hN (si_seq (sa_call (ok__law_nodes W) (hr.mono (by decide)) W.g__law_nodes W.F__law_nodes.kp W.b__law_nodes (sas_cons sa_var (sas_cons sa_var sas_nil)))) (blk_of (own := [("path", 6), ("here", 7), ("node", 8)]) (by kernel_rfl)) rfl (fun _ _ _ _ _ => (sg_tup rfl (sgs_cons (sg_name hN) (sgs_cons (sg_name hN) (sgs_cons (sg_name hN) sgs_nil))))) (fun _ _ _ _ _ => sts_nil) (fun _ _ _ _ _ => sa_var)) (sss_cons (ss_set (sa_listRg rfl W.n_list (srg_1 W.n_range (sa_callB call_lenAll s_len W.n_len (by decide +kernel) (sas_cons sa_var sas_nil)))) hN) (sss_cons (ss_if (st_cmp op_gt s_cmp (nomark _) (sa_callB call_lenAll s_len W.n_len (by decide +kernel) (sas_cons sa_var sas_nil)) sa_int bl_cmp) (sss_cons (ss_set (sa_lst (sas_cons (sa_call (ok__law_pick W) (hr.mono (by decide)) W.g__law_pick W.F__law_pick.kp W.b__law_pick (sas_cons sa_var (sas_cons sa_var sas_nil))) sas_nil)) hN) sss_nil) sss_nil) (sss_cons (ss_for PassesOwn.never rfl (si_seq sa_var) (sg_name hN) (sss_cons (ss_set (sa_call (ok__law_own W) (hr.mono (by decide)) W.g__law_own W.F__law_own.kp W.b__law_own (sas_cons sa_var (sas_cons sa_var (sas_cons sa_var sas_nil)))) hN) (sss_cons (ss_set (sa_call (ok__law_own W) (hr.mono (by decide)) W.g__law_own W.F__law_own.kp W.b__law_own (sas_cons sa_var (sas_cons sa_var (sas_cons sa_var sas_nil)))) hN) (sss_cons (ss_set (sa_lst (sas_cons (sa_callTy call_tuple_ofF s_tuple W.n_tuple (by decide +kernel) (sas_cons (sa_lc rfl hN (si_seq sa_var) (blk_of (own := [("path", 6), ("many", 14)]) (by kernel_rfl)) rfl (fun _ _ _ _ _ => (sg_tup rfl (sgs_cons (sg_name hN) (sgs_cons (sg_name hN) sgs_nil)))) (fun _ _ _ _ _ => sts_nil) (fun _ _ _ _ _ => (sa_tup (sas_cons sa_var (sas_cons (sa_bin op_sub s_sub sa_var sa_int) sas_nil))))) sas_nil)) (sas_cons (sa_call (ok__law_drawn_pairs W) (hr.mono (by decide)) W.g__law_drawn_pairs W.F__law_drawn_pairs.kp W.b__law_drawn_pairs (sas_cons sa_var (sas_cons sa_var sas_nil))) sas_nil))) hN) (sss_cons (ss_expr (sa_meth PySem.F.slot_list_append PySem.F.type_list_append mt_append s_append (sas_cons (sa_call (ok__law_own_truthful W) (hr.mono (by decide)) W.g__law_own_truthful W.F__law_own_truthful.kp W.b__law_own_truthful (sas_cons sa_var (sas_cons sa_var (sas_cons sa_var (sas_cons (sa_call (ok__law_pick W) (hr.mono (by decide)) W.g__law_pick W.F__law_pick.kp W.b__law_pick (sas_cons sa_var (sas_cons (sa_ix (u65 hr) sa_var sa_var) sas_nil))) sas_nil))))) sas_nil))) (sss_cons (ss_set (sa_bin op_addAll s_add (sa_bin op_addAll s_add (sa_call (ok__law_near W) (hr.mono (by decide)) W.g__law_near W.F__law_near.kp W.b__law_near (sas_cons sa_var (sas_cons sa_var (sas_cons sa_var (sas_cons sa_var (sas_cons (sa_call (ok__law_pick W) (hr.mono (by decide)) W.g__law_pick W.F__law_pick.kp W.b__law_pick (sas_cons sa_var (sas_cons sa_var sas_nil))) sas_nil)))))) sa_var) (sa_lst (sas_cons (sa_call (ok__law_drawn_pairs W) (hr.mono (by decide)) W.g__law_drawn_pairs W.F__law_drawn_pairs.kp W.b__law_drawn_pairs (sas_cons sa_var (sas_cons sa_var sas_nil))) sas_nil))) hN) (sss_cons (ss_set (sa_call (ok__law_draw W) (hr.mono (by decide)) W.g__law_draw W.F__law_draw.kp W.b__law_draw (sas_cons sa_var (sas_cons (sa_callB call_lenAll s_len W.n_len (by decide +kernel) (sas_cons sa_var sas_nil)) sas_nil))) hN) (sss_cons (ss_expr (sa_meth PySem.F.slot_list_append PySem.F.type_list_append mt_append s_append (sas_cons (sa_call (ok__law_drawn_pairs W) (hr.mono (by decide)) W.g__law_drawn_pairs W.F__law_drawn_pairs.kp W.b__law_drawn_pairs (sas_cons sa_var (sas_cons (sa_call (ok__law_own W) (hr.mono (by decide)) W.g__law_own W.F__law_own.kp W.b__law_own (sas_cons sa_var (sas_cons sa_var (sas_cons sa_var sas_nil)))) sas_nil))) sas_nil))) (sss_cons (ss_if (sw_or (st_not (st_truth (sa_call (ok__law_asked W) (hr.mono (by decide)) W.g__law_asked W.F__law_asked.kp W.b__law_asked (sas_cons sa_var (sas_cons sa_var (sas_cons sa_var (sas_cons sa_var (sas_cons sa_var sas_nil)))))))) (sw_or1 (st_not (st_truth (sa_call (ok__law_are_truthful W) (hr.mono (by decide)) W.g__law_are_truthful W.F__law_are_truthful.kp W.b__law_are_truthful (sas_cons sa_var (sas_cons sa_var (sas_cons sa_var sas_nil)))))))).st (sss_cons (ss_ret sa_bl) sss_nil) sss_nil) (sss_cons (ss_if (st_not (st_truth (sa_call (ok__law_asked W) (hr.mono (by decide)) W.g__law_asked W.F__law_asked.kp W.b__law_asked (sas_cons sa_var (sas_cons sa_var (sas_cons sa_var (sas_cons sa_var (sas_cons (sa_bin op_addAll s_add sa_var (sa_lst (sas_cons (sa_ix (u65 hr) sa_var (sa_un un_neg s_neg sa_int)) sas_nil))) sas_nil)))))))) (sss_cons (ss_ret sa_bl) sss_nil) sss_nil) (sss_cons (ss_if (sw_or (st_not (st_truth (sa_call (ok__law_are_truthful W) (hr.mono (by decide)) W.g__law_are_truthful W.F__law_are_truthful.kp W.b__law_are_truthful (sas_cons sa_var (sas_cons sa_var (sas_cons sa_var sas_nil)))))) (sw_or1 (st_not (st_truth (sa_call (ok__law_asked W) (hr.mono (by decide)) W.g__law_asked W.F__law_asked.kp W.b__law_asked (sas_cons sa_var (sas_cons sa_var (sas_cons sa_var (sas_cons sa_var (sas_cons sa_var sas_nil)))))))))).st (sss_cons (ss_ret sa_bl) sss_nil) sss_nil) sss_nil))))))))))) (sss_cons (ss_ret sa_bl) sss_nil))))))) : SSs _ _ m_law_k36)
end
end P_k36

namespace P_k36
open Z PySem PySem.Spec PyProof.Rows L2 S
def h_narrowed : He.DefD := ⟨("narrowed", none), "narrowed", "narrowed", defArgs (top 1), defBody (top 1), defScope (top 1), [], []⟩
def h_is_leaf : He.DefD := ⟨("is_leaf", none), "is_leaf", "is_leaf", defArgs (top 3), defBody (top 3), defScope (top 3), [], []⟩
def h_nodes_from : He.DefD := ⟨("nodes_from", none), "nodes_from", "nodes_from", defArgs (top 4), defBody (top 4), defScope (top 4), [], []⟩
def h_questions_of : He.DefD := ⟨("questions_of", none), "questions_of", "questions_of", defArgs (top 5), defBody (top 5), defScope (top 5), [], []⟩
def h_node_at : He.DefD := ⟨("node_at", none), "node_at", "node_at", defArgs (top 7), defBody (top 7), defScope (top 7), [], []⟩
def h_branches_at : He.DefD := ⟨("branches_at", none), "branches_at", "branches_at", defArgs (top 8), defBody (top 8), defScope (top 8), [], []⟩
def h_kinds_at : He.DefD := ⟨("kinds_at", none), "kinds_at", "kinds_at", defArgs (top 9), defBody (top 9), defScope (top 9), [], []⟩
def h_branch_with : He.DefD := ⟨("branch_with", none), "branch_with", "branch_with", defArgs (top 10), defBody (top 10), defScope (top 10), [], []⟩
def h_own_questions : He.DefD := ⟨("own_questions", none), "own_questions", "own_questions", defArgs (top 11), defBody (top 11), defScope (top 11), [], []⟩
def h_choices_of : He.DefD := ⟨("choices_of", none), "choices_of", "choices_of", defArgs (top 12), defBody (top 12), defScope (top 12), [], []⟩
def h_are_ascending : He.DefD := ⟨("are_ascending", none), "are_ascending", "are_ascending", defArgs (top 14), defBody (top 14), defScope (top 14), [], []⟩
def h_are_choices : He.DefD := ⟨("are_choices", none), "are_choices", "are_choices", defArgs (top 15), defBody (top 15), defScope (top 15), [], []⟩
def h_is_strategy : He.DefD := ⟨("is_strategy", none), "is_strategy", "is_strategy", defArgs (top 16), defBody (top 16), defScope (top 16), [], []⟩
def h_truthful : He.DefD := ⟨("truthful", none), "truthful", "truthful", defArgs (top 17), defBody (top 17), defScope (top 17), [], []⟩
def h__law_begin : He.DefD := ⟨("_law_begin", none), "_law_begin", "_law_begin", defArgs (top 19), defBody (top 19), defScope (top 19), [], []⟩
def h__law_draw : He.DefD := ⟨("_law_draw", none), "_law_draw", "_law_draw", defArgs (top 20), defBody (top 20), defScope (top 20), [], []⟩
def h__law_pick : He.DefD := ⟨("_law_pick", none), "_law_pick", "_law_pick", defArgs (top 21), defBody (top 21), defScope (top 21), [], []⟩
def h__law_rare : He.DefD := ⟨("_law_rare", none), "_law_rare", "_law_rare", defArgs (top 22), defBody (top 22), defScope (top 22), [], []⟩
def h__law_is_int : He.DefD := ⟨("_law_is_int", none), "_law_is_int", "_law_is_int", defArgs (top 23), defBody (top 23), defScope (top 23), [], []⟩
def h__law_is_ints : He.DefD := ⟨("_law_is_ints", none), "_law_is_ints", "_law_is_ints", defArgs (top 24), defBody (top 24), defScope (top 24), [], []⟩
def h__law_is_pair : He.DefD := ⟨("_law_is_pair", none), "_law_is_pair", "_law_is_pair", defArgs (top 25), defBody (top 25), defScope (top 25), [], []⟩
def h__law_sizes : He.DefD := ⟨("_law_sizes", none), "_law_sizes", "_law_sizes", defArgs (top 26), defBody (top 26), defScope (top 26), [], []⟩
def h__law_parts : He.DefD := ⟨("_law_parts", none), "_law_parts", "_law_parts", defArgs (top 27), defBody (top 27), defScope (top 27), [], []⟩
def h__law_narrowed : He.DefD := ⟨("_law_narrowed", none), "_law_narrowed", "_law_narrowed", defArgs (top 28), defBody (top 28), defScope (top 28), [], []⟩
def h__law_hearing : He.DefD := ⟨("_law_hearing", none), "_law_hearing", "_law_hearing", defArgs (top 29), defBody (top 29), defScope (top 29), [], []⟩
def h__law_nodes : He.DefD := ⟨("_law_nodes", none), "_law_nodes", "_law_nodes", defArgs (top 30), defBody (top 30), defScope (top 30), [], []⟩
def h__law_drawn_box : He.DefD := ⟨("_law_drawn_box", none), "_law_drawn_box", "_law_drawn_box", defArgs (top 31), defBody (top 31), defScope (top 31), [], []⟩
def h__law_places : He.DefD := ⟨("_law_places", none), "_law_places", "_law_places", defArgs (top 32), defBody (top 32), defScope (top 32), [], []⟩
def h__law_at : He.DefD := ⟨("_law_at", none), "_law_at", "_law_at", defArgs (top 33), defBody (top 33), defScope (top 33), [], []⟩
def h__law_put : He.DefD := ⟨("_law_put", none), "_law_put", "_law_put", defArgs (top 34), defBody (top 34), defScope (top 34), [], []⟩
def h__law_spoilt : He.DefD := ⟨("_law_spoilt", none), "_law_spoilt", "_law_spoilt", defArgs (top 35), defBody (top 35), defScope (top 35), [], []⟩
def h__law_node : He.DefD := ⟨("_law_node", none), "_law_node", "_law_node", defArgs (top 36), defBody (top 36), defScope (top 36), [], []⟩
def h__law_finest : He.DefD := ⟨("_law_finest", none), "_law_finest", "_law_finest", defArgs (top 37), defBody (top 37), defScope (top 37), [], []⟩
def h__law_own : He.DefD := ⟨("_law_own", none), "_law_own", "_law_own", defArgs (top 38), defBody (top 38), defScope (top 38), [], []⟩
def h__law_own_truthful : He.DefD := ⟨("_law_own_truthful", none), "_law_own_truthful", "_law_own_truthful", defArgs (top 39), defBody (top 39), defScope (top 39), [], []⟩
def h__law_judged : He.DefD := ⟨("_law_judged", none), "_law_judged", "_law_judged", defArgs (top 40), defBody (top 40), defScope (top 40), [], []⟩
def h__law_from_behind : He.DefD := ⟨("_law_from_behind", none), "_law_from_behind", "_law_from_behind", defArgs (top 41), defBody (top 41), defScope (top 41), [], []⟩
def h__law_near_one : He.DefD := ⟨("_law_near_one", none), "_law_near_one", "_law_near_one", defArgs (top 42), defBody (top 42), defScope (top 42), [], []⟩
def h__law_near : He.DefD := ⟨("_law_near", none), "_law_near", "_law_near", defArgs (top 43), defBody (top 43), defScope (top 43), [], []⟩
def h__law_asked : He.DefD := ⟨("_law_asked", none), "_law_asked", "_law_asked", defArgs (top 44), defBody (top 44), defScope (top 44), [], []⟩
def h__law_are_truthful : He.DefD := ⟨("_law_are_truthful", none), "_law_are_truthful", "_law_are_truthful", defArgs (top 45), defBody (top 45), defScope (top 45), [], []⟩
def h__law_drawn_pairs : He.DefD := ⟨("_law_drawn_pairs", none), "_law_drawn_pairs", "_law_drawn_pairs", defArgs (top 46), defBody (top 46), defScope (top 46), [], []⟩
def h__law_world : He.DefD := ⟨("_law_world", none), "_law_world", "_law_world", defArgs (top 47), defBody (top 47), defScope (top 47), [], []⟩
def h_law : He.DefD := ⟨("law", none), "law", "law", defArgs (top 48), defBody (top 48), defScope (top 48), [], []⟩
def fn : List He.DefD := [h_narrowed, h_is_leaf, h_nodes_from, h_questions_of, h_node_at, h_branches_at, h_kinds_at, h_branch_with, h_own_questions, h_choices_of, h_are_ascending, h_are_choices, h_is_strategy, h_truthful, h__law_begin, h__law_draw, h__law_pick, h__law_rare, h__law_is_int, h__law_is_ints, h__law_is_pair, h__law_sizes, h__law_parts, h__law_narrowed, h__law_hearing, h__law_nodes, h__law_drawn_box, h__law_places, h__law_at, h__law_put, h__law_spoilt, h__law_node, h__law_finest, h__law_own, h__law_own_truthful, h__law_judged, h__law_from_behind, h__law_near_one, h__law_near, h__law_asked, h__law_are_truthful, h__law_drawn_pairs, h__law_world, h_law]
def fa : List He.Fa := (([.glo "narrowed", .glo "is_leaf", .glo "nodes_from", .glo "questions_of", .glo "node_at", .glo "branches_at", .glo "kinds_at", .glo "branch_with", .glo "own_questions", .glo "choices_of", .glo "are_ascending", .glo "are_choices", .glo "is_strategy", .glo "truthful", .glo "_law_begin", .glo "_law_draw"] : List He.Fa) ++ ([.glo "_law_pick", .glo "_law_rare", .glo "_law_is_int", .glo "_law_is_ints", .glo "_law_is_pair", .glo "_law_sizes", .glo "_law_parts", .glo "_law_narrowed", .glo "_law_hearing", .glo "_law_nodes", .glo "_law_drawn_box", .glo "_law_places", .glo "_law_at", .glo "_law_put", .glo "_law_spoilt", .glo "_law_node"] : List He.Fa) ++ ([.glo "_law_finest", .glo "_law_own", .glo "_law_own_truthful", .glo "_law_judged", .glo "_law_from_behind", .glo "_law_near_one", .glo "_law_near", .glo "_law_asked", .glo "_law_are_truthful", .glo "_law_drawn_pairs", .glo "_law_world", .glo "law", .free "abs", .free "all", .free "bool", .free "int"] : List He.Fa) ++ ([.free "isinstance", .free "len", .free "list", .free "range", .free "sorted", .free "tuple"] : List He.Fa))
abbrev R : PySem.W.OpenRow := PySem.W.OpenLaw.row PySem.Challenge.rw_plainhearing_k36_strategies_judged
abbrev hk : PySem.W.Hook := He.hookD 2 fa fn
def ob (s : PySem.W.SharedT) : He.AlD := He.obsDG 2 fa fn (HandSHeadRun.getT s)
theorem ob_eq (s : PySem.W.SharedT) : ob s = hk.obs s.abs := He.obsDG_eq (HandSHeadRun.getT_eq s)
theorem run (w : World) : HandSHeadRun.RunEq R (PySem.W.view R.prog [48]) hk ob 3940 ((["narrowed", "is_leaf", "nodes_from", "questions_of", "node_at", "branches_at", "kinds_at", "branch_with", "own_questions", "choices_of", "are_ascending", "are_choices", "is_strategy", "truthful", "_law_begin", "_law_draw"] : List PySem.Str) ++ (["_law_pick", "_law_rare", "_law_is_int", "_law_is_ints", "_law_is_pair", "_law_sizes", "_law_parts", "_law_narrowed", "_law_hearing", "_law_nodes", "_law_drawn_box", "_law_places", "_law_at", "_law_put", "_law_spoilt", "_law_node"] : List PySem.Str) ++ (["_law_finest", "_law_own", "_law_own_truthful", "_law_judged", "_law_from_behind", "_law_near_one", "_law_near", "_law_asked", "_law_are_truthful", "_law_drawn_pairs", "_law_world"] : List PySem.Str)) w := by
  intro os
  kernel_rfl
theorem facts {P : Program} {w : World} {K : PySem.W.Frag} {h : Heap} {mg : Str → Option Value} {f : Addr} (X : K.In h) (G : h.Ns mainGlobals mg) (hfa : mg ("law" : Str) = some (.ref f)) (c : He.SaysD fa fn K) :
    ∃ fd : FuncData, (∀ (s : Shared) (v : Value), BindsTo s fd ⟨[v], []⟩ [("script", v)]) ∧ ∀ base : Heap, K.In base → base.Ns mainGlobals mg → FnOkG P w K mg base CX0 123 f fd ["script"] (spD K 1 c_law_k36) := by
  obtain ⟨d_narrowed, F_narrowed⟩ := c.def_ 0 (d := h_narrowed) rfl
  obtain ⟨d_is_leaf, F_is_leaf⟩ := c.def_ 1 (d := h_is_leaf) rfl
  obtain ⟨d_nodes_from, F_nodes_from⟩ := c.def_ 2 (d := h_nodes_from) rfl
  obtain ⟨d_questions_of, F_questions_of⟩ := c.def_ 3 (d := h_questions_of) rfl
  obtain ⟨d_node_at, F_node_at⟩ := c.def_ 4 (d := h_node_at) rfl
  obtain ⟨d_branches_at, F_branches_at⟩ := c.def_ 5 (d := h_branches_at) rfl
  obtain ⟨d_kinds_at, F_kinds_at⟩ := c.def_ 6 (d := h_kinds_at) rfl
  obtain ⟨d_branch_with, F_branch_with⟩ := c.def_ 7 (d := h_branch_with) rfl
  obtain ⟨d_own_questions, F_own_questions⟩ := c.def_ 8 (d := h_own_questions) rfl
  obtain ⟨d_choices_of, F_choices_of⟩ := c.def_ 9 (d := h_choices_of) rfl
  obtain ⟨d_are_ascending, F_are_ascending⟩ := c.def_ 10 (d := h_are_ascending) rfl
  obtain ⟨d_are_choices, F_are_choices⟩ := c.def_ 11 (d := h_are_choices) rfl
  obtain ⟨d_is_strategy, F_is_strategy⟩ := c.def_ 12 (d := h_is_strategy) rfl
  obtain ⟨d_truthful, F_truthful⟩ := c.def_ 13 (d := h_truthful) rfl
  obtain ⟨d__law_begin, F__law_begin⟩ := c.def_ 14 (d := h__law_begin) rfl
  obtain ⟨d__law_draw, F__law_draw⟩ := c.def_ 15 (d := h__law_draw) rfl
  obtain ⟨d__law_pick, F__law_pick⟩ := c.def_ 16 (d := h__law_pick) rfl
  obtain ⟨d__law_rare, F__law_rare⟩ := c.def_ 17 (d := h__law_rare) rfl
  obtain ⟨d__law_is_int, F__law_is_int⟩ := c.def_ 18 (d := h__law_is_int) rfl
  obtain ⟨d__law_is_ints, F__law_is_ints⟩ := c.def_ 19 (d := h__law_is_ints) rfl
  obtain ⟨d__law_is_pair, F__law_is_pair⟩ := c.def_ 20 (d := h__law_is_pair) rfl
  obtain ⟨d__law_sizes, F__law_sizes⟩ := c.def_ 21 (d := h__law_sizes) rfl
  obtain ⟨d__law_parts, F__law_parts⟩ := c.def_ 22 (d := h__law_parts) rfl
  obtain ⟨d__law_narrowed, F__law_narrowed⟩ := c.def_ 23 (d := h__law_narrowed) rfl
  obtain ⟨d__law_hearing, F__law_hearing⟩ := c.def_ 24 (d := h__law_hearing) rfl
  obtain ⟨d__law_nodes, F__law_nodes⟩ := c.def_ 25 (d := h__law_nodes) rfl
  obtain ⟨d__law_drawn_box, F__law_drawn_box⟩ := c.def_ 26 (d := h__law_drawn_box) rfl
  obtain ⟨d__law_places, F__law_places⟩ := c.def_ 27 (d := h__law_places) rfl
  obtain ⟨d__law_at, F__law_at⟩ := c.def_ 28 (d := h__law_at) rfl
  obtain ⟨d__law_put, F__law_put⟩ := c.def_ 29 (d := h__law_put) rfl
  obtain ⟨d__law_spoilt, F__law_spoilt⟩ := c.def_ 30 (d := h__law_spoilt) rfl
  obtain ⟨d__law_node, F__law_node⟩ := c.def_ 31 (d := h__law_node) rfl
  obtain ⟨d__law_finest, F__law_finest⟩ := c.def_ 32 (d := h__law_finest) rfl
  obtain ⟨d__law_own, F__law_own⟩ := c.def_ 33 (d := h__law_own) rfl
  obtain ⟨d__law_own_truthful, F__law_own_truthful⟩ := c.def_ 34 (d := h__law_own_truthful) rfl
  obtain ⟨d__law_judged, F__law_judged⟩ := c.def_ 35 (d := h__law_judged) rfl
  obtain ⟨d__law_from_behind, F__law_from_behind⟩ := c.def_ 36 (d := h__law_from_behind) rfl
  obtain ⟨d__law_near_one, F__law_near_one⟩ := c.def_ 37 (d := h__law_near_one) rfl
  obtain ⟨d__law_near, F__law_near⟩ := c.def_ 38 (d := h__law_near) rfl
  obtain ⟨d__law_asked, F__law_asked⟩ := c.def_ 39 (d := h__law_asked) rfl
  obtain ⟨d__law_are_truthful, F__law_are_truthful⟩ := c.def_ 40 (d := h__law_are_truthful) rfl
  obtain ⟨d__law_drawn_pairs, F__law_drawn_pairs⟩ := c.def_ 41 (d := h__law_drawn_pairs) rfl
  obtain ⟨d__law_world, F__law_world⟩ := c.def_ 42 (d := h__law_world) rfl
  obtain ⟨d_law, F_law⟩ := c.def_ 43 (d := h_law) rfl
  have e := hfa.symm.trans (He.glo_ok X G (c.fact 43 (f := .glo "law") rfl))
  cases e
  have b := FunD.bindsA (ps := ["script"]) F_law fun _ _ _ _ _ _ us hl => match us, hl with | [_], _ => rfl
  refine ⟨d_law, fun s v => b s [v] rfl, fun base _ _ => ?_⟩
  exact ok_law {
    a_narrowed := _, d_narrowed := d_narrowed, F_narrowed := F_narrowed, g_narrowed := He.glo_ok X G (c.fact 0 (f := .glo "narrowed") rfl), b_narrowed := (FunD.bindsN F_narrowed fun _ _ _ _ _ _ us hl => match us, hl with | [_, _, _], _ => rfl),
    a_is_leaf := _, d_is_leaf := d_is_leaf, F_is_leaf := F_is_leaf, g_is_leaf := He.glo_ok X G (c.fact 1 (f := .glo "is_leaf") rfl), b_is_leaf := (FunD.bindsN F_is_leaf fun _ _ _ _ _ _ us hl => match us, hl with | [_], _ => rfl),
    a_nodes_from := _, d_nodes_from := d_nodes_from, F_nodes_from := F_nodes_from, g_nodes_from := He.glo_ok X G (c.fact 2 (f := .glo "nodes_from") rfl), b_nodes_from := (FunD.bindsN F_nodes_from fun _ _ _ _ _ _ us hl => match us, hl with | [_, _, _], _ => rfl),
    a_questions_of := _, d_questions_of := d_questions_of, F_questions_of := F_questions_of, g_questions_of := He.glo_ok X G (c.fact 3 (f := .glo "questions_of") rfl), b_questions_of := (FunD.bindsN F_questions_of fun _ _ _ _ _ _ us hl => match us, hl with | [_, _], _ => rfl),
    a_node_at := _, d_node_at := d_node_at, F_node_at := F_node_at, g_node_at := He.glo_ok X G (c.fact 4 (f := .glo "node_at") rfl), b_node_at := (FunD.bindsN F_node_at fun _ _ _ _ _ _ us hl => match us, hl with | [_, _], _ => rfl),
    a_branches_at := _, d_branches_at := d_branches_at, F_branches_at := F_branches_at, g_branches_at := He.glo_ok X G (c.fact 5 (f := .glo "branches_at") rfl), b_branches_at := (FunD.bindsN F_branches_at fun _ _ _ _ _ _ us hl => match us, hl with | [_, _], _ => rfl),
    a_kinds_at := _, d_kinds_at := d_kinds_at, F_kinds_at := F_kinds_at, g_kinds_at := He.glo_ok X G (c.fact 6 (f := .glo "kinds_at") rfl), b_kinds_at := (FunD.bindsN F_kinds_at fun _ _ _ _ _ _ us hl => match us, hl with | [_, _, _], _ => rfl),
    a_branch_with := _, d_branch_with := d_branch_with, F_branch_with := F_branch_with, g_branch_with := He.glo_ok X G (c.fact 7 (f := .glo "branch_with") rfl), b_branch_with := (FunD.bindsN F_branch_with fun _ _ _ _ _ _ us hl => match us, hl with | [_, _, _], _ => rfl),
    a_own_questions := _, d_own_questions := d_own_questions, F_own_questions := F_own_questions, g_own_questions := He.glo_ok X G (c.fact 8 (f := .glo "own_questions") rfl), b_own_questions := (FunD.bindsN F_own_questions fun _ _ _ _ _ _ us hl => match us, hl with | [_, _, _], _ => rfl),
    a_choices_of := _, d_choices_of := d_choices_of, F_choices_of := F_choices_of, g_choices_of := He.glo_ok X G (c.fact 9 (f := .glo "choices_of") rfl), b_choices_of := (FunD.bindsN F_choices_of fun _ _ _ _ _ _ us hl => match us, hl with | [_, _, _], _ => rfl),
    a_are_ascending := _, d_are_ascending := d_are_ascending, F_are_ascending := F_are_ascending, g_are_ascending := He.glo_ok X G (c.fact 10 (f := .glo "are_ascending") rfl), b_are_ascending := (FunD.bindsN F_are_ascending fun _ _ _ _ _ _ us hl => match us, hl with | [_], _ => rfl),
    a_are_choices := _, d_are_choices := d_are_choices, F_are_choices := F_are_choices, g_are_choices := He.glo_ok X G (c.fact 11 (f := .glo "are_choices") rfl), b_are_choices := (FunD.bindsN F_are_choices fun _ _ _ _ _ _ us hl => match us, hl with | [_, _], _ => rfl),
    a_is_strategy := _, d_is_strategy := d_is_strategy, F_is_strategy := F_is_strategy, g_is_strategy := He.glo_ok X G (c.fact 12 (f := .glo "is_strategy") rfl), b_is_strategy := (FunD.bindsN F_is_strategy fun _ _ _ _ _ _ us hl => match us, hl with | [_, _, _, _], _ => rfl),
    a_truthful := _, d_truthful := d_truthful, F_truthful := F_truthful, g_truthful := He.glo_ok X G (c.fact 13 (f := .glo "truthful") rfl), b_truthful := (FunD.bindsN F_truthful fun _ _ _ _ _ _ us hl => match us, hl with | [_, _, _, _], _ => rfl),
    a__law_begin := _, d__law_begin := d__law_begin, F__law_begin := F__law_begin, g__law_begin := He.glo_ok X G (c.fact 14 (f := .glo "_law_begin") rfl), b__law_begin := (FunD.bindsN F__law_begin fun _ _ _ _ _ _ us hl => match us, hl with | [_], _ => rfl),
    a__law_draw := _, d__law_draw := d__law_draw, F__law_draw := F__law_draw, g__law_draw := He.glo_ok X G (c.fact 15 (f := .glo "_law_draw") rfl), b__law_draw := (FunD.bindsN F__law_draw fun _ _ _ _ _ _ us hl => match us, hl with | [_, _], _ => rfl),
    a__law_pick := _, d__law_pick := d__law_pick, F__law_pick := F__law_pick, g__law_pick := He.glo_ok X G (c.fact 16 (f := .glo "_law_pick") rfl), b__law_pick := (FunD.bindsN F__law_pick fun _ _ _ _ _ _ us hl => match us, hl with | [_, _], _ => rfl),
    a__law_rare := _, d__law_rare := d__law_rare, F__law_rare := F__law_rare, g__law_rare := He.glo_ok X G (c.fact 17 (f := .glo "_law_rare") rfl), b__law_rare := (FunD.bindsN F__law_rare fun _ _ _ _ _ _ us hl => match us, hl with | [_, _], _ => rfl),
    a__law_is_int := _, d__law_is_int := d__law_is_int, F__law_is_int := F__law_is_int, g__law_is_int := He.glo_ok X G (c.fact 18 (f := .glo "_law_is_int") rfl), b__law_is_int := (FunD.bindsN F__law_is_int fun _ _ _ _ _ _ us hl => match us, hl with | [_], _ => rfl),
    a__law_is_ints := _, d__law_is_ints := d__law_is_ints, F__law_is_ints := F__law_is_ints, g__law_is_ints := He.glo_ok X G (c.fact 19 (f := .glo "_law_is_ints") rfl), b__law_is_ints := (FunD.bindsN F__law_is_ints fun _ _ _ _ _ _ us hl => match us, hl with | [_], _ => rfl),
    a__law_is_pair := _, d__law_is_pair := d__law_is_pair, F__law_is_pair := F__law_is_pair, g__law_is_pair := He.glo_ok X G (c.fact 20 (f := .glo "_law_is_pair") rfl), b__law_is_pair := (FunD.bindsN F__law_is_pair fun _ _ _ _ _ _ us hl => match us, hl with | [_], _ => rfl),
    a__law_sizes := _, d__law_sizes := d__law_sizes, F__law_sizes := F__law_sizes, g__law_sizes := He.glo_ok X G (c.fact 21 (f := .glo "_law_sizes") rfl), b__law_sizes := (FunD.bindsN F__law_sizes fun _ _ _ _ _ _ us hl => match us, hl with | [_, _], _ => rfl),
    a__law_parts := _, d__law_parts := d__law_parts, F__law_parts := F__law_parts, g__law_parts := He.glo_ok X G (c.fact 22 (f := .glo "_law_parts") rfl), b__law_parts := (FunD.bindsN F__law_parts fun _ _ _ _ _ _ us hl => match us, hl with | [_, _], _ => rfl),
    a__law_narrowed := _, d__law_narrowed := d__law_narrowed, F__law_narrowed := F__law_narrowed, g__law_narrowed := He.glo_ok X G (c.fact 23 (f := .glo "_law_narrowed") rfl), b__law_narrowed := (FunD.bindsN F__law_narrowed fun _ _ _ _ _ _ us hl => match us, hl with | [_, _, _], _ => rfl),
    a__law_hearing := _, d__law_hearing := d__law_hearing, F__law_hearing := F__law_hearing, g__law_hearing := He.glo_ok X G (c.fact 24 (f := .glo "_law_hearing") rfl), b__law_hearing := (FunD.bindsN F__law_hearing fun _ _ _ _ _ _ us hl => match us, hl with | [_, _, _], _ => rfl),
    a__law_nodes := _, d__law_nodes := d__law_nodes, F__law_nodes := F__law_nodes, g__law_nodes := He.glo_ok X G (c.fact 25 (f := .glo "_law_nodes") rfl), b__law_nodes := (FunD.bindsN F__law_nodes fun _ _ _ _ _ _ us hl => match us, hl with | [_, _], _ => rfl),
    a__law_drawn_box := _, d__law_drawn_box := d__law_drawn_box, F__law_drawn_box := F__law_drawn_box, g__law_drawn_box := He.glo_ok X G (c.fact 26 (f := .glo "_law_drawn_box") rfl), b__law_drawn_box := (FunD.bindsN F__law_drawn_box fun _ _ _ _ _ _ us hl => match us, hl with | [_, _], _ => rfl),
    a__law_places := _, d__law_places := d__law_places, F__law_places := F__law_places, g__law_places := He.glo_ok X G (c.fact 27 (f := .glo "_law_places") rfl), b__law_places := (FunD.bindsN F__law_places fun _ _ _ _ _ _ us hl => match us, hl with | [_], _ => rfl),
    a__law_at := _, d__law_at := d__law_at, F__law_at := F__law_at, g__law_at := He.glo_ok X G (c.fact 28 (f := .glo "_law_at") rfl), b__law_at := (FunD.bindsN F__law_at fun _ _ _ _ _ _ us hl => match us, hl with | [_, _], _ => rfl),
    a__law_put := _, d__law_put := d__law_put, F__law_put := F__law_put, g__law_put := He.glo_ok X G (c.fact 29 (f := .glo "_law_put") rfl), b__law_put := (FunD.bindsN F__law_put fun _ _ _ _ _ _ us hl => match us, hl with | [_, _, _], _ => rfl),
    a__law_spoilt := _, d__law_spoilt := d__law_spoilt, F__law_spoilt := F__law_spoilt, g__law_spoilt := He.glo_ok X G (c.fact 30 (f := .glo "_law_spoilt") rfl), b__law_spoilt := (FunD.bindsN F__law_spoilt fun _ _ _ _ _ _ us hl => match us, hl with | [_, _], _ => rfl),
    a__law_node := _, d__law_node := d__law_node, F__law_node := F__law_node, g__law_node := He.glo_ok X G (c.fact 31 (f := .glo "_law_node") rfl), b__law_node := (FunD.bindsN F__law_node fun _ _ _ _ _ _ us hl => match us, hl with | [_, _], _ => rfl),
    a__law_finest := _, d__law_finest := d__law_finest, F__law_finest := F__law_finest, g__law_finest := He.glo_ok X G (c.fact 32 (f := .glo "_law_finest") rfl), b__law_finest := (FunD.bindsN F__law_finest fun _ _ _ _ _ _ us hl => match us, hl with | [_], _ => rfl),
    a__law_own := _, d__law_own := d__law_own, F__law_own := F__law_own, g__law_own := He.glo_ok X G (c.fact 33 (f := .glo "_law_own") rfl), b__law_own := (FunD.bindsN F__law_own fun _ _ _ _ _ _ us hl => match us, hl with | [_, _, _], _ => rfl),
    a__law_own_truthful := _, d__law_own_truthful := d__law_own_truthful, F__law_own_truthful := F__law_own_truthful, g__law_own_truthful := He.glo_ok X G (c.fact 34 (f := .glo "_law_own_truthful") rfl), b__law_own_truthful := (FunD.bindsN F__law_own_truthful fun _ _ _ _ _ _ us hl => match us, hl with | [_, _, _, _], _ => rfl),
    a__law_judged := _, d__law_judged := d__law_judged, F__law_judged := F__law_judged, g__law_judged := He.glo_ok X G (c.fact 35 (f := .glo "_law_judged") rfl), b__law_judged := (FunD.bindsN F__law_judged fun _ _ _ _ _ _ us hl => match us, hl with | [_, _], _ => rfl),
    a__law_from_behind := _, d__law_from_behind := d__law_from_behind, F__law_from_behind := F__law_from_behind, g__law_from_behind := He.glo_ok X G (c.fact 36 (f := .glo "_law_from_behind") rfl), b__law_from_behind := (FunD.bindsN F__law_from_behind fun _ _ _ _ _ _ us hl => match us, hl with | [_, _, _], _ => rfl),
    a__law_near_one := _, d__law_near_one := d__law_near_one, F__law_near_one := F__law_near_one, g__law_near_one := He.glo_ok X G (c.fact 37 (f := .glo "_law_near_one") rfl), b__law_near_one := (FunD.bindsN F__law_near_one fun _ _ _ _ _ _ us hl => match us, hl with | [_, _, _, _], _ => rfl),
    a__law_near := _, d__law_near := d__law_near, F__law_near := F__law_near, g__law_near := He.glo_ok X G (c.fact 38 (f := .glo "_law_near") rfl), b__law_near := (FunD.bindsN F__law_near fun _ _ _ _ _ _ us hl => match us, hl with | [_, _, _, _, _], _ => rfl),
    a__law_asked := _, d__law_asked := d__law_asked, F__law_asked := F__law_asked, g__law_asked := He.glo_ok X G (c.fact 39 (f := .glo "_law_asked") rfl), b__law_asked := (FunD.bindsN F__law_asked fun _ _ _ _ _ _ us hl => match us, hl with | [_, _, _, _, _], _ => rfl),
    a__law_are_truthful := _, d__law_are_truthful := d__law_are_truthful, F__law_are_truthful := F__law_are_truthful, g__law_are_truthful := He.glo_ok X G (c.fact 40 (f := .glo "_law_are_truthful") rfl), b__law_are_truthful := (FunD.bindsN F__law_are_truthful fun _ _ _ _ _ _ us hl => match us, hl with | [_, _, _], _ => rfl),
    a__law_drawn_pairs := _, d__law_drawn_pairs := d__law_drawn_pairs, F__law_drawn_pairs := F__law_drawn_pairs, g__law_drawn_pairs := He.glo_ok X G (c.fact 41 (f := .glo "_law_drawn_pairs") rfl), b__law_drawn_pairs := (FunD.bindsN F__law_drawn_pairs fun _ _ _ _ _ _ us hl => match us, hl with | [_, _], _ => rfl),
    a__law_world := _, d__law_world := d__law_world, F__law_world := F__law_world, g__law_world := He.glo_ok X G (c.fact 42 (f := .glo "_law_world") rfl), b__law_world := (FunD.bindsN F__law_world fun _ _ _ _ _ _ us hl => match us, hl with | [_], _ => rfl),
    a_law := _, d_law := d_law, F_law := F_law, g_law := He.glo_ok X G (c.fact 43 (f := .glo "law") rfl), b_law := (FunD.bindsN F_law fun _ _ _ _ _ _ us hl => match us, hl with | [_], _ => rfl),
    n_abs := He.free_ok X G (c.fact 44 (f := .free "abs") rfl),
    n_all := He.free_ok X G (c.fact 45 (f := .free "all") rfl),
    n_bool := He.free_ok X G (c.fact 46 (f := .free "bool") rfl),
    n_int := He.free_ok X G (c.fact 47 (f := .free "int") rfl),
    n_isinstance := He.free_ok X G (c.fact 48 (f := .free "isinstance") rfl),
    n_len := He.free_ok X G (c.fact 49 (f := .free "len") rfl),
    n_list := He.free_ok X G (c.fact 50 (f := .free "list") rfl),
    n_range := He.free_ok X G (c.fact 51 (f := .free "range") rfl),
    n_sorted := He.free_ok X G (c.fact 52 (f := .free "sorted") rfl),
    n_tuple := He.free_ok X G (c.fact 53 (f := .free "tuple") rfl) }
theorem end_ (pure_law : ∀ ns : List Int, ns.length ≤ 63 → ∃ fs, c_law_k36 [⟨.scr (ns.map D.int), 0⟩] = .ok (Cell.fz (.bl true), fs)) : PySem.Challenge.rw_plainhearing_k36_strategies_judged.Holds := by
  open PySem.W PySem.Calls in
  w_on; o_law
  refine HandSHeadRun.head_any (r := OpenLaw.row PySem.Challenge.rw_plainhearing_k36_strategies_judged) (q := view (OpenLaw.row PySem.Challenge.rw_plainhearing_k36_strategies_judged).prog [48]) (H := hk) (ob := ob) (M := 3940) (loose := ((["narrowed", "is_leaf", "nodes_from", "questions_of", "node_at", "branches_at", "kinds_at", "branch_with", "own_questions", "choices_of", "are_ascending", "are_choices", "is_strategy", "truthful", "_law_begin", "_law_draw"] : List PySem.Str) ++ (["_law_pick", "_law_rare", "_law_is_int", "_law_is_ints", "_law_is_pair", "_law_sizes", "_law_parts", "_law_narrowed", "_law_hearing", "_law_nodes", "_law_drawn_box", "_law_places", "_law_at", "_law_put", "_law_spoilt", "_law_node"] : List PySem.Str) ++ (["_law_finest", "_law_own", "_law_own_truthful", "_law_judged", "_law_from_behind", "_law_near_one", "_law_near", "_law_asked", "_law_are_truthful", "_law_drawn_pairs", "_law_world"] : List PySem.Str))) (d := HandSHeadRun.topDef (OpenLaw.row PySem.Challenge.rw_plainhearing_k36_strategies_judged).prog 48) (kwd := []) ob_eq
    (by kernel_rfl) (fun s => by kernel_rfl) run (by kernel_rfl) (by kernel_rfl) (by kernel_rfl) (by rfl) (by first | assumption | decide +kernel) (by decide +kernel) ⟨rfl, rfl, rfl, rfl, rfl, by decide +kernel⟩ ?hw ?hc
  case hw => w_witness2
  case hc =>
    refine Z.walk_ofG (l := PySem.Challenge.rw_plainhearing_k36_strategies_judged) (n := 63) (lv := 123) (x := "script") (C := L2.CX0) rfl (by decide) (by kernel_rfl) ⟨rfl, by decide, by decide⟩ ?F (fun _ _ _ _ z => z)
    intro w mg fa h Y G hmg0
    obtain ⟨K, KX, c⟩ := Y
    have hmg : mg ("law" : PySem.Str) = some (.ref fa) := by
      have e : (HandSHeadRun.topDef (OpenLaw.row PySem.Challenge.rw_plainhearing_k36_strategies_judged).prog 48).name = ("law" : PySem.Str) := by kernel_rfl
      rw [← e]
      exact hmg0
    obtain ⟨fd, hb, hF⟩ := facts (P := (PySem.Challenge.rw_plainhearing_k36_strategies_judged).prog) (w := w) KX G hmg c
    exact ⟨K, fd, spD K 1 c_law_k36, KX, hb, fun H a ns hl _ hS => (pure_law ns hl).elim fun fs h => law_sp hS h, hF⟩
end P_k36

/-! S: boxes and rows. -/
namespace S
open Z PySem PySem.Spec PyProof.Rows L2
@[simp] theorem eq_draw : c__law_draw = c_draw := rfl
@[simp] theorem eq_begin : c__law_begin = c_begin := rfl
@[simp] theorem eq_pick : c__law_pick = c_pick := rfl
@[simp] theorem eq_shuffled : c__law_shuffled = c_shuffled := rfl
@[simp] theorem eq_is_int : c__law_is_int = c_is_int := rfl
@[simp] theorem eq_is_ints : c__law_is_ints = c_is_ints := rfl
theorem prodL_le {α : Type} : ∀ {parts : List (List α)}, (∀ p ∈ parts, p.length ≤ 8) → (prodL parts).length ≤ 8 ^ parts.length
  | [], _ => by simp [prodL]
  | p :: ps, h => by
    rw [prodL_length, List.map_cons, List.foldr_cons, ← prodL_length, List.length_cons, Nat.pow_succ, Nat.mul_comm]
    exact Nat.mul_le_mul (prodL_le fun q hq => h q (List.mem_cons_of_mem _ hq)) (h p (List.mem_cons_self ..))
theorem prodL_row {α : Type} {parts : List (List α)} {row : List α} (h : row ∈ prodL parts) : row.length = parts.length := by
  replace h := prodL_mem.mp h
  induction h with
  | nil => rfl
  | cons _ _ ih => rw [List.length_cons, List.length_cons, ih]
theorem prodL_map {α β : Type} (f : α → β) : ∀ ps : List (List α), prodL (ps.map fun p => p.map f) = (prodL ps).map fun r => r.map f
  | [] => rfl
  | p :: ps => by
    rw [List.map_cons, prodL_cons, prodL_cons, prodL_map f ps]
    simp [List.map_flatMap, List.flatMap_map, Function.comp_def]
theorem prodL_takes {α : Type} {done rest parts : List (List α)} (e : parts = done ++ rest) (hl : parts.length ≤ 8) (h : ∀ p ∈ parts, p.length ≤ 8) : (prodL done).length ≤ 16777216 := by
  subst e
  have h1 := prodL_le (parts := done) fun p hp => h p (List.mem_append_left _ hp)
  rw [List.length_append] at hl
  exact Nat.le_trans h1 (Nat.le_trans (Nat.pow_le_pow_right (by decide) (show done.length ≤ 8 by omega)) (by decide))
/-- all rows -/
theorem combined_any {parts : List (List D)} {k : Nat} {c : D} (hc : c = .tup (parts.map .tup) ∧ k = 0 ∨ c = .lst (parts.map .tup) ∧ k = 1) (hl : parts.length ≤ 8) (h : ∀ p ∈ parts, p.length ≤ 8) : c_combined [⟨c, k⟩] = .ok (⟨.tup ((prodL parts).map .tup), 0⟩, [⟨c, k⟩]) := by
  have main : ∀ (ch : Option Nat) (L : List Nat), 2 ∉ L → 1 ∉ L → (∀ ρ, chkOk ⟨parts.map .tup, ch⟩ (some ⟨c, k⟩ :: ρ) = true) → ∃ x2, loopF ⟨parts.map .tup, ch⟩ (gN 2) b_combined_2 L (parts.map .tup) [some ⟨c, k⟩, some ⟨.lst [.tup []], 1⟩, none, none, none] = .ok (.next, [some ⟨c, k⟩, some ⟨.lst ((prodL parts).map .tup), 1⟩, x2, none, none]) := by
    intro ch L hL2 hL1 hck
    obtain ⟨s', e, rest, h2⟩ := for_rel (it := ⟨parts.map .tup, ch⟩) (g := gN 2) (body := b_combined_2) (L := L) (ds := parts) (s := ([[]], none)) D.tup (fun s : List (List D) × Option Cell => [some ⟨c, k⟩, some ⟨.lst (s.1.map .tup), 1⟩, s.2, none, none])
      (fun rest s => ∃ done, parts = done ++ rest ∧ s.1 = prodL done) ⟨[], rfl, rfl⟩ (fun p rest s ⟨done, h1, h2⟩ => by
        refine ⟨(prodL (done ++ [p]), some ⟨.tup p, 0⟩), ?_, done ++ [p], by simp [h1], rfl⟩
        have hb := prodL_takes (done := done ++ [p]) (rest := rest) (by simp [h1]) hl h
        have e := comp2_m (it := ⟨s.1.map .tup, some 1⟩) (g := gN 3) (g1 := gN 4) (tt := mYes) (tt1 := mYes) (mi1 := mItems (aVar 2)) (me := e_combined_1) (vs := [3, 4]) (vs1 := [4]) (ρ := [some ⟨c, k⟩, some ⟨.lst (s.1.map .tup), 1⟩, some ⟨.tup p, 0⟩, none, none])
          D.tup (fun _ => p) id (fun row x => .tup (row ++ [x])) (fun row => [some ⟨c, k⟩, some ⟨.lst (s.1.map .tup), 1⟩, some ⟨.tup p, 0⟩, some ⟨.tup row, 0⟩, none]) (by simp) (ds := s.1) (fun row hr => by
            have hrl : row.length ≤ 8 := by
              rw [h2] at hr
              have := prodL_row hr
              rw [h1, List.length_append] at hl
              omega
            refine ⟨none, by simp, by simp, by simp, by simp, fun x hx => ?_, by simp⟩
            simp [comp1, e_combined_1, f_addT (l := row) (m := [x]) (show row.length ≤ 10000 by omega) (by simp)])
        have e3 : (s.1.flatMap fun row => p.map fun x => D.tup (row ++ [x])) = (prodL (done ++ [p])).map .tup := by
          rw [prodL_snoc, h2]
          simp [List.map_flatMap, Function.comp_def]
        rw [e3] at e
        simp [step1, b_combined_2, e, hb, hL2, hL1, hck])
    obtain ⟨h1, h2⟩ := h2
    rw [List.append_nil] at h1
    subst h1
    have e2 : ([[]] : List (List D)).map D.tup = [.tup []] := rfl
    simp only [h2, e2] at e
    exact ⟨_, e⟩
  rcases hc with ⟨rfl, rfl⟩ | ⟨rfl, rfl⟩
  · obtain ⟨x2, e⟩ := main none [] (by simp) (by simp) fun _ => rfl
    simp [c_combined, m_combined, e]
  · obtain ⟨x2, e⟩ := main (some 0) [0, 0] (by simp) (by simp) fun _ => by simp
    simp [c_combined, m_combined, e]
theorem combined_ok {parts : List (List D)} (hl : parts.length ≤ 8) (h : ∀ p ∈ parts, p.length ≤ 8) : c_combined [⟨.tup (parts.map .tup), 0⟩] = .ok (⟨.tup ((prodL parts).map .tup), 0⟩, [⟨.tup (parts.map .tup), 0⟩]) := combined_any (.inl ⟨rfl, rfl⟩) hl h
theorem rows_of_ok {parts : List (List D)} (hl : parts.length ≤ 8) (h : ∀ p ∈ parts, p.length ≤ 8) : c_rows_of [⟨.tup (parts.map .tup), 0⟩] = .ok (⟨.tup ((prodL parts).map .tup), 0⟩, [⟨.tup (parts.map .tup), 0⟩]) := by
  simp [c_rows_of, m_rows_of, combined_ok hl h]
theorem narrowed_ok {bs l : List D} {p : Nat} (hp : p < bs.length) (hl : bs.length ≤ 1000) : c_narrowed [⟨.tup bs, 0⟩, ⟨.int (p : Int), 0⟩, ⟨.tup l, 0⟩] = .ok (⟨.tup (bs.set p (.tup l)), 0⟩, [⟨.tup bs, 0⟩, ⟨.int (p : Int), 0⟩, ⟨.tup l, 0⟩]) := by
  have e1 := cutD_to (l := bs) (k := p) (by omega)
  have e2 := cutD_from (l := bs) (k := p + 1) (by omega)
  rw [show ((p + 1 : Nat) : Int) = (p : Int) + 1 by omega] at e2
  have e3 : bs.set p (.tup l) = bs.take p ++ .tup l :: bs.drop (p + 1) := by rw [List.set_eq_take_append_cons_drop, if_pos hp]
  simp [c_narrowed, m_narrowed, e1, e2, f_addT, e3, show p ≤ 10000 by omega, show bs.length - (p + 1) ≤ 10000 by omega, show bs.length ≤ 10000 by omega, Nat.min_eq_left (show p ≤ bs.length by omega), show p + 1 ≤ 10000 by omega]
end S

/-! S: houses, values, cases. -/
namespace S
open Z PySem PySem.Spec PyProof.Rows L2
structure Kind where
  name : Str
  worths : List (List Int)
  deriving Inhabited
structure Prsn where
  name : Str
  kinds : List Kind
  watches : List Nat
  deriving Inhabited
structure End where
  out : Nat
  pays : List Int
  deriving Inhabited, DecidableEq
structure House where
  told : List Str
  persons : List Prsn
  ends : List End
  slack : Int
  deriving Inhabited
abbrev Box := List (List Nat)
abbrev Row := List Nat
def End.d (e : End) : D := .tup [.int e.out, iD e.pays]
def Kind.d (k : Kind) : D := .tup [.str k.name, .tup (k.worths.map iD)]
def Prsn.d (p : Prsn) : D := .tup [.str p.name, .tup (p.kinds.map Kind.d), nD p.watches]
def House.d (h : House) : D := .tup [.str "house", .tup (h.told.map D.str), .tup (h.persons.map Prsn.d), .tup (h.ends.map End.d), .int h.slack]
def Box.d (b : Box) : D := .tup (b.map nD)
def House.kinds (h : House) (p : Nat) : List Kind := (h.persons.getD p default).kinds
def House.worths (h : House) (p k : Nat) : List (List Int) := ((h.kinds p).getD k default).worths
def House.row (h : House) (p k j : Nat) : List Int := (h.worths p k).getD j []
theorem getD_some {α : Type} {l : List α} {i : Nat} {a : α} (h : i < l.length) : l[i]? = some (l.getD i a) := by
  simp -implicitDefEqProofs [List.getElem?_eq_getElem h]
theorem map_some {α β : Type} {f : α → β} {l : List α} {i : Nat} {a : α} (h : i < l.length) : (l.map f)[i]? = some (f (l.getD i a)) := by
  simp -implicitDefEqProofs [List.getElem?_eq_getElem h]
section
variable {h : House} {p k j : Nat} {e : End}
theorem House.at2 {k k' : Nat} : fIx [⟨h.d, k⟩, ⟨.int 2, k'⟩] = .ok ⟨.tup (h.persons.map Prsn.d), 0⟩ := ixT (i := 2) rfl
theorem House.at1 {k k' : Nat} : fIx [⟨h.d, k⟩, ⟨.int 1, k'⟩] = .ok ⟨.tup (h.told.map D.str), 0⟩ := ixT (i := 1) rfl
theorem Prsn.at1 {q : Prsn} {k k' : Nat} : fIx [⟨q.d, k⟩, ⟨.int 1, k'⟩] = .ok ⟨.tup (q.kinds.map Kind.d), 0⟩ := ixT (i := 1) rfl
theorem Prsn.at2 {q : Prsn} {k k' : Nat} : fIx [⟨q.d, k⟩, ⟨.int 2, k'⟩] = .ok ⟨nD q.watches, 0⟩ := ixT (i := 2) rfl
theorem Kind.at1 {q : Kind} {k k' : Nat} : fIx [⟨q.d, k⟩, ⟨.int 1, k'⟩] = .ok ⟨.tup (q.worths.map iD), 0⟩ := ixT (i := 1) rfl
theorem End.at1 {k k' : Nat} : fIx [⟨e.d, k⟩, ⟨.int 1, k'⟩] = .ok ⟨iD e.pays, 0⟩ := ixT (i := 1) rfl
/-- the value of an end by numbers -/
def val (ns : List Int) (p : Nat) (e : End) : Int := ns.getD e.out 0 - e.pays.getD p 0
end
/-! ### cases -/
theorem rows_nL (b : Box) : prodL (b.map nL) = (prodL b).map nL := prodL_map (fun (i : Nat) => D.int (i : Int)) b
theorem box_parts (b : Box) : (b.map nL).map D.tup = b.map nD := by rw [List.map_map]; rfl
/-- a box that may be walked -/
structure BoxOk (b : Box) : Prop where
  len : b.length ≤ 8
  part : ∀ q ∈ b, q.length ≤ 8
theorem BoxOk.nL {b : Box} (h : BoxOk b) : (b.map nL).length ≤ 8 ∧ ∀ q ∈ b.map Z.nL, q.length ≤ 8 := ⟨by simpa using h.len, fun q hq => by
  obtain ⟨z, hz, rfl⟩ := List.mem_map.mp hq
  simpa using h.part z hz⟩
theorem rows_of_box {b : Box} (h : BoxOk b) : c_rows_of [⟨Box.d b, 0⟩] = .ok (⟨.tup ((prodL b).map nD), 0⟩, [⟨Box.d b, 0⟩]) := by
  have e := rows_of_ok (parts := b.map nL) h.nL.1 h.nL.2
  rw [box_parts, rows_nL, box_parts] at e
  exact e
section
variable {h : House} {b : Box} {p : Nat}
end
end S

/-! S: the houses that the laws draw. -/
namespace S
open Z PySem PySem.Spec PyProof.Rows L2
theorem draw_e {l : List D} {m : Int} (h : DSl l) (h0 : 0 < m) (h1 : m < 4611686018427387904) : ∃ (n : Nat) (l' : List D), c_draw [⟨.lst l, 1⟩, ⟨.int m, 0⟩] = .ok (⟨.int (n : Int), 0⟩, [⟨.lst l', 1⟩, ⟨.int m, 0⟩]) ∧ DSl l' ∧ (n : Int) < m :=
  ⟨_, _, draw_s h h0 h1, h.d, dN_lt h h0 h1⟩
theorem drawN_e {l : List D} {m : Nat} (h : DSl l) (h0 : 0 < m) (h1 : m < 4611686018427387904) : ∃ (n : Nat) (l' : List D), c_draw [⟨.lst l, 1⟩, ⟨.int (m : Int), 0⟩] = .ok (⟨.int (n : Int), 0⟩, [⟨.lst l', 1⟩, ⟨.int (m : Int), 0⟩]) ∧ DSl l' ∧ n < m := by
  obtain ⟨n, l', e, h2, h3⟩ := draw_e (m := (m : Int)) h (by omega) (by omega)
  exact ⟨n, l', e, h2, by omega⟩
/-- numbers up to a million million -/
def Bd (i : Int) : Prop := -1000000000000 ≤ i ∧ i ≤ 1000000000000
end S

/-! S: drawing loops, houses. -/
namespace S
open Z PySem PySem.Spec PyProof.Rows L2
section
variable {α β σ : Type}
/-- a loop that appends one thing each turn -/
theorem for_app {it : ItD} {g : MG} {body : MS} {L : List Nat} (toD : α → D) (enc : σ → List β → Z.Env) (I : σ → Prop) (P : α → β → Prop) {ds : List α} {s : σ} {acc : List β} (hs : I s) (hl : acc.length + ds.length ≤ 10000)
    (h : ∀ a ∈ ds, ∀ s acc, I s → acc.length ≤ 10000 → ∃ s' b, step1 it g body L (toD a) (enc s acc) = .ok (.next, enc s' (acc ++ [b])) ∧ I s' ∧ P a b) :
    ∃ s' bs, loopF it g body L (ds.map toD) (enc s acc) = .ok (.next, enc s' (acc ++ bs)) ∧ I s' ∧ Paired P ds bs := by
  induction ds generalizing s acc with
  | nil => exact ⟨s, [], by rw [List.append_nil]; rfl, hs, .nil⟩
  | cons a r ih =>
    rw [List.length_cons] at hl
    obtain ⟨s1, b, e1, h1, hp⟩ := h a (List.mem_cons_self ..) s acc hs (by omega)
    obtain ⟨s2, bs, e2, h2, hq⟩ := ih (acc := acc ++ [b]) h1 (by simp; omega) (fun x hx => h x (List.mem_cons_of_mem _ hx))
    exact ⟨s2, b :: bs, by rw [List.map_cons, loop_next e1, e2, List.append_assoc]; rfl, h2, .cons hp hq⟩
theorem pr_len {P : α → β → Prop} {as : List α} {bs : List β} (h : Paired P as bs) : as.length = bs.length := by
  induction h with
  | nil => rfl
  | cons _ _ ih => rw [List.length_cons, List.length_cons, ih]
theorem pr_get {P : α → β → Prop} {as : List α} {bs : List β} (h : Paired P as bs) : ∀ {i : Nat} {a : α} {b : β}, as[i]? = some a → bs[i]? = some b → P a b := by
  induction h with
  | nil => intro i a b h; simp at h
  | cons hp _ ih =>
    intro i a b h1 h2
    cases i with
    | zero => simp at h1 h2; subst h1 h2; exact hp
    | succ i => exact ih (by simpa using h1) (by simpa using h2)
theorem pr_all {P : α → β → Prop} {Q : β → Prop} {as : List α} {bs : List β} (h : Paired P as bs) (hq : ∀ a b, P a b → Q b) : ∀ b ∈ bs, Q b := by
  induction h with
  | nil => intro b hb; simp at hb
  | cons hp _ ih =>
    intro b hb
    rcases List.mem_cons.mp hb with rfl | hb
    · exact hq _ _ hp
    · exact ih b hb
end
/-! ### what is drawn -/
structure KindOk (out : Nat) (k : Kind) : Prop where
  n1 : 1 ≤ k.worths.length
  n3 : k.worths.length ≤ 3
  row : ∀ ns ∈ k.worths, ns.length = out ∧ ∀ i ∈ ns, Bd i
structure PrsnOk (np out p size : Nat) (q : Prsn) : Prop where
  nk : q.kinds.length = size
  kind : ∀ k ∈ q.kinds, KindOk out k
  asc : q.watches.Pairwise (· < ·)
  wat : ∀ o ∈ q.watches, o < np ∧ o ≠ p
structure EndOk (np out : Nat) (e : End) : Prop where
  out : e.out < out
  len : e.pays.length = np
  bd : ∀ i ∈ e.pays, Bd i
def rowsN (sizes : List Nat) : Nat := sizes.foldr (· * ·) 1
structure HouseOk (h : House) (sizes : List Nat) : Prop where
  np : h.persons.length = sizes.length
  prs : ∀ (p : Nat) (q : Prsn), h.persons[p]? = some q → PrsnOk sizes.length h.told.length p (sizes.getD p 0) q
  t1 : 1 ≤ h.told.length
  t24 : h.told.length ≤ 24
  ne : h.ends.length = rowsN sizes
  en : ∀ e ∈ h.ends, EndOk sizes.length h.told.length e
  s0 : 0 ≤ h.slack
  s1 : h.slack ≤ 4000000000000
structure SizesOk (sizes : List Nat) : Prop where
  n1 : 1 ≤ sizes.length
  n4 : sizes.length ≤ 4
  s : ∀ x ∈ sizes, 1 ≤ x ∧ x ≤ 8
  rows : rowsN sizes ≤ 256
section
variable {l : List D} {sizes : List Nat} {out worths np pay : Nat} {c1 c2 c3 c4 c5 c6 c7 c8 c9 c10 c11 c12 c13 c14 c15 c16 c17 c18 c19 : Option Cell}
def fz0 (c : Option Cell) : Prop := ∀ x, c = some x → x.k = 0
theorem fz0_none : fz0 none := fun _ h => by cases h
theorem fz0_some {d : D} : fz0 (some ⟨d, 0⟩) := fun _ h => by cases h; rfl
abbrev rgI (n : Nat) : List D := (List.range n).map fun (i : Nat) => D.int (i : Int)
abbrev iC (n : Nat) : Option Cell := some ⟨.int (n : Int), 0⟩
end
end S

/-! S: the drawn house as a whole. -/
namespace S
open Z PySem PySem.Spec PyProof.Rows L2
@[simp] theorem isN_non {k k' : Nat} : fIsN [⟨.non, k⟩, ⟨.non, k'⟩] = .ok ⟨.bl true, 0⟩ := rfl
@[simp] theorem isN_tup {l : List D} {k k' : Nat} : fIsN [⟨.tup l, k⟩, ⟨.non, k'⟩] = .ok ⟨.bl false, 0⟩ := rfl
@[simp] theorem isN_int {i : Int} {k k' : Nat} : fIsN [⟨.int i, k⟩, ⟨.non, k'⟩] = .ok ⟨.bl false, 0⟩ := rfl
@[simp] theorem notN_non {k k' : Nat} : fNotN [⟨.non, k⟩, ⟨.non, k'⟩] = .ok ⟨.bl false, 0⟩ := rfl
@[simp] theorem notN_tup {l : List D} {k k' : Nat} : fNotN [⟨.tup l, k⟩, ⟨.non, k'⟩] = .ok ⟨.bl true, 0⟩ := rfl
@[simp] theorem notN_int {i : Int} {k k' : Nat} : fNotN [⟨.int i, k⟩, ⟨.non, k'⟩] = .ok ⟨.bl true, 0⟩ := rfl
theorem foldr_len (sizes : List Nat) : (prodL (sizes.map List.range)).length = rowsN sizes := by
  rw [prodL_length, List.map_map]
  unfold rowsN
  congr 1
  induction sizes with
  | nil => rfl
  | cons a r ih => simp [ih]
section
variable {l : List D} {sizes : List Nat} {out worths np pay : Nat} {c1 c2 c3 c4 c5 c6 c7 c8 c9 c10 c11 c12 c13 c14 c15 c16 c17 c18 c19 : Option Cell}
end
end S

/-! S: the drawn house. -/
namespace S
open Z PySem PySem.Spec PyProof.Rows L2
def rowsOf (sizes : List Nat) : List Row := prodL (sizes.map List.range)
theorem rowsOf_len {sizes : List Nat} : (rowsOf sizes).length = rowsN sizes := foldr_len sizes
theorem rgOk_nat {n : Nat} (h : n ≤ 1000000) : rgOkB 0 (n : Int) = true := by
  unfold rgOkB rgB
  simp only [Bool.and_eq_true, decide_eq_true_eq]
  omega
end S

/-! S: sizes, whole boxes, cases, drawn boxes. -/
namespace S
open Z PySem PySem.Spec PyProof.Rows L2
def menu : List (List Nat) := [[2, 2], [3, 2], [2, 2, 2], [2, 3], [3, 3], [1, 3], [2, 1, 2], [4, 2], [3], [2, 3, 2], [1], [2, 5], [3, 4], [2, 2, 3], [1, 1], [2, 2, 2, 2], [6, 2], [3, 2, 3], [4, 4], [8, 2], [1, 2, 1, 3],
  [3, 3, 2], [3, 3, 3], [2, 8], [4, 2, 3], [5, 5], [2, 2, 2, 4], [8, 3], [4, 3, 3], [8, 8], [4, 4, 4]]
theorem menu_ok : ∀ s ∈ menu, SizesOk s ∧ rowsN s ≤ 64 := by
  have h : menu.all (fun s => decide (1 ≤ s.length) && decide (s.length ≤ 4) && s.all (fun x => decide (1 ≤ x) && decide (x ≤ 8)) && decide (rowsN s ≤ 64)) = true := by decide +kernel
  intro s hs
  have := List.all_eq_true.mp h s hs
  simp only [Bool.and_eq_true, decide_eq_true_eq, List.all_eq_true] at this
  exact ⟨⟨this.1.1.1, this.1.1.2, this.1.2, by omega⟩, this.2⟩
theorem foldl_mul (s : List Nat) : ∀ a : Nat, s.foldl (· * ·) a = a * rowsN s := by
  induction s with
  | nil => intro a; simp [rowsN]
  | cons x r ih => intro a; rw [List.foldl_cons, ih]; simp [rowsN, Nat.mul_assoc]
/-! drawn boxes -/
structure BoxIn (b w : Box) : Prop where
  len : b.length = w.length
  sub : ∀ (i : Nat) (q z : List Nat), b[i]? = some q → w[i]? = some z → q.Sublist z ∧ q ≠ []
theorem BoxIn.self {w : Box} (h : ∀ z ∈ w, z ≠ []) : BoxIn w w := ⟨rfl, fun i q z h1 h2 => by
  rw [h1] at h2
  cases h2
  exact ⟨List.Sublist.refl _, h q (List.mem_of_getElem? h1)⟩⟩
theorem law_drawn_box_e {l : List D} {w : Box} (h : DSl l) (hne : ∀ z ∈ w, z ≠ []) (hl : w.length ≤ 1000) (hz : ∀ z ∈ w, z.length ≤ 1000) : ∃ (b : Box) (l' : List D), c__law_drawn_box [⟨.lst l, 1⟩, ⟨Box.d w, 0⟩] = .ok (⟨Box.d b, 0⟩, [⟨.lst l', 1⟩, ⟨Box.d w, 0⟩]) ∧ DSl l' ∧ BoxIn b w := by
  obtain ⟨⟨l', a3, a4⟩, b, e, h1, hp⟩ := for_app (it := ⟨w.map nD, none⟩) (g := gN 3) (body := b__law_drawn_box_3) (L := [0]) (ds := w) (s := (l, none, none)) (acc := []) nD
    (fun (s : List D × Option Cell × Option Cell) (acc : Box) => [some ⟨.lst s.1, 1⟩, some ⟨Box.d w, 0⟩, some ⟨.lst (acc.map nD), 1⟩, s.2.1, s.2.2, none]) (fun s => DSl s.1) (fun z q => q.Sublist z ∧ q ≠ []) h (by simp; omega) (fun z hzw s acc hs hl2 => by
      have hz1 := hz z hzw
      have hz0 := hne z hzw
      obtain ⟨l1, out, e1, h1, q, hq, hsub⟩ := comp_rel (it := ⟨nL z, none⟩) (g := gN 5) (tt := t__law_drawn_box_1) (me := e__law_drawn_box_2) (vs := [5]) (ds := z) (s := s.1) (acc := []) (fun (i : Nat) => D.int (i : Int))
        (fun l => [some ⟨.lst l, 1⟩, some ⟨Box.d w, 0⟩, some ⟨.lst (acc.map nD), 1⟩, some ⟨nD z, 0⟩, s.2.2, none]) (fun r l acc => DSl l ∧ ∃ q : List Nat, acc = nL q ∧ ∃ done, z = done ++ r ∧ q.Sublist done) ⟨hs, [], rfl, [], rfl, List.Sublist.refl _⟩ (fun a r l acc2 ⟨h1, q, hq, done, hd, hsub⟩ => by
          obtain ⟨n, l2, e, h2, h3⟩ := draw_e (m := 3) h1 (by decide) (by decide)
          by_cases hn : 0 < n
          · refine ⟨l2, some (.int (a : Int)), ?_, h2, q ++ [a], by simp [hq, nL], done ++ [a], by simp [hd], hsub.append (List.Sublist.refl _)⟩
            have hn' : (0 : Int) < n := by omega
            simp -implicitDefEqProofs [comp1, t__law_drawn_box_1, e__law_drawn_box_2, e, hn]
          · refine ⟨l2, none, ?_, h2, q, by simp [hq], done ++ [a], by simp [hd], ?_⟩
            · have hn' : n = 0 := by omega
              subst hn'
              simp -implicitDefEqProofs [comp1, t__law_drawn_box_1, e__law_drawn_box_2, e]
            · simpa using hsub.append (List.nil_sublist [a]))
      obtain ⟨done, hd, hsub⟩ := hsub
      rw [List.append_nil] at hd
      subst hd
      rw [List.nil_append] at hq
      subst hq
      have e0 : z.map (fun (i : Nat) => D.int (i : Int)) = nL z := rfl
      rw [e0] at e1
      have hla : (acc.map nD).length ≤ 10000 := by simpa using hl2
      have et : ∀ q : List Nat, D.tup (nL q) = nD q := fun _ => rfl
      by_cases hq0 : q = []
      · subst hq0
        have hpk := pickT_s (l := l1) (row := nL z) h1 (by rw [nL_len]; exact List.length_pos_iff.mpr hz0) (by rw [nL_len]; omega)
        have hn := dN_ltN (l := l1) (m := z.length) h1 (List.length_pos_iff.mpr hz0) (by omega)
        rw [nL_len] at hpk
        have hg : (nL z).getD (dN l1 (z.length : Nat)) .non = .int (z.getD (dN l1 (z.length : Nat)) 0 : Nat) := by simp [nL, List.getElem?_eq_getElem hn]
        have hmem : z.getD (dN l1 (z.length : Nat)) 0 ∈ z := by simp [List.getElem?_eq_getElem hn]
        rw [hg, et] at hpk
        refine ⟨(dL l1 (z.length : Nat), some ⟨nD z, 0⟩, some ⟨nD [z.getD (dN l1 (z.length : Nat)) 0], 0⟩), [z.getD (dN l1 (z.length : Nat)) 0], ?_, h1.d, List.singleton_sublist.mpr hmem, by simp⟩
        have ez : D.tup [.int (z.getD (dN l1 (z.length : Nat)) 0 : Nat)] = nD [z.getD (dN l1 (z.length : Nat)) 0] := rfl
        have en : nD [] = .tup (nL []) := rfl
        simp (maxSteps := 1000000) -implicitDefEqProofs [-List.getD_eq_getElem?_getD, step1, b__law_drawn_box_3, e1, show z.length ≤ 16777216 by omega, hpk, ez, f_app hla]
      · have hq1 : q.length ≠ 0 := fun z => hq0 (List.length_eq_zero_iff.mp z)
        refine ⟨(l1, some ⟨nD z, 0⟩, some ⟨nD q, 0⟩), q, ?_, h1, hsub, hq0⟩
        simp (maxSteps := 1000000) -implicitDefEqProofs [step1, b__law_drawn_box_3, e1, show z.length ≤ 16777216 by omega, et, hq0, f_app hla])
  simp only [List.nil_append] at e
  have e0 : ([] : Box).map nD = [] := rfl
  rw [e0] at e
  refine ⟨b, l', ?_, h1, (pr_len hp).symm, fun i q z h2 h3 => pr_get hp h3 h2⟩
  have eb : Box.d w = .tup (w.map nD) := rfl
  have eb2 : D.tup (b.map nD) = Box.d b := rfl
  have ei : itemsOf (Box.d w) = some (w.map nD) := rfl
  simp -implicitDefEqProofs [c__law_drawn_box, m__law_drawn_box, ei, e, eb2]
end S

/-! S: wide houses. -/
namespace S
open Z PySem PySem.Spec PyProof.Rows L2
end S

/-! S: wide houses as a whole. -/
namespace S
open Z PySem PySem.Spec PyProof.Rows L2
section
variable {l : List D} {sizes : List Nat} {out np : Nat} {sc : Int} {c1 c2 c3 c4 c5 c6 c7 c8 c9 c10 c11 c12 c13 c14 c15 c16 c17 c18 : Option Cell}
end
end S

/-! S: hearings. -/
namespace S
open Z PySem PySem.Spec PyProof.Rows L2
inductive Hr where
  | fin
  | ask (p : Nat) (rows : List (List Nat × Hr))
theorem Hr.ind {P : Hr → Prop} (h0 : P .fin) (h1 : ∀ p rows, (∀ r ∈ rows, P r.2) → P (.ask p rows)) : ∀ h, P h
  | .fin => h0
  | .ask p rows => h1 p rows fun r hr => Hr.ind h0 h1 r.2
termination_by h => sizeOf h
decreasing_by
  have := List.sizeOf_lt_of_mem hr
  obtain ⟨a, b⟩ := r
  simp at this ⊢
  omega
def Hr.d : Hr → D
  | .fin => .tup [.str "end"]
  | .ask p rows => .tup [.str "ask", .int (p : Int), .tup (rows.attach.map fun ⟨r, _⟩ => .tup [nD r.1, r.2.d])]
termination_by h => sizeOf h
decreasing_by
  rename_i hr
  have := List.sizeOf_lt_of_mem hr
  obtain ⟨a, b⟩ := r
  simp at this ⊢
  omega
def rowD (r : List Nat × Hr) : D := .tup [nD r.1, r.2.d]
theorem Hr.d_fin : Hr.fin.d = .tup [.str "end"] := by unfold Hr.d; rfl
theorem Hr.d_ask {p : Nat} {rows : List (List Nat × Hr)} : (Hr.ask p rows).d = .tup [.str "ask", .int (p : Int), .tup (rows.map rowD)] := by
  conv => lhs; unfold Hr.d
  have : (rows.attach.map fun (x : {x // x ∈ rows}) => D.tup [nD x.1.1, x.1.2.d]) = rows.map rowD := by
    refine List.ext_getElem (by simp) fun i h1 h2 => ?_
    simp [rowD]
  rw [← this]
/-- nodes in the order in which a stack gives them -/
def Hr.nodes : Hr → List Nat → Box → List (List Nat × Box × Hr)
  | .fin, path, b => [(path, b, .fin)]
  | .ask p rows, path, b => (path, b, .ask p rows) :: (rows.attach.zipIdx.map fun (⟨r, _⟩, k) => r.2.nodes (path ++ [k]) (b.set p r.1)).flatten
termination_by h => sizeOf h
decreasing_by
  rename_i hr
  have := List.sizeOf_lt_of_mem hr
  obtain ⟨a, b⟩ := r
  simp at this ⊢
  omega
theorem Hr.nodes_fin {path : List Nat} {b : Box} : Hr.fin.nodes path b = [(path, b, .fin)] := by unfold Hr.nodes; rfl
def subNodes (p : Nat) (path : List Nat) (b : Box) (x : (List Nat × Hr) × Nat) : List (List Nat × Box × Hr) := x.1.2.nodes (path ++ [x.2]) (b.set p x.1.1)
theorem Hr.nodes_ask {p : Nat} {rows : List (List Nat × Hr)} {path : List Nat} {b : Box} : (Hr.ask p rows).nodes path b = (path, b, .ask p rows) :: (rows.zipIdx.map (subNodes p path b)).flatten := by
  conv => lhs; unfold Hr.nodes
  congr 2
  refine List.ext_getElem (by simp) fun i h1 h2 => ?_
  simp [subNodes]
/-- a hearing of a box -/
inductive HearOk : Box → Hr → Prop
  | fin {b : Box} : HearOk b .fin
  | ask {b : Box} {p : Nat} {rows : List (List Nat × Hr)} : p < b.length → 2 ≤ rows.length → (∀ r ∈ rows, r.1 ≠ [] ∧ r.1.Sublist (b.getD p [])) → (rows.map (·.1)).flatten.Perm (b.getD p []) → (∀ r ∈ rows, HearOk (b.set p r.1) r.2) → HearOk b (.ask p rows)
end S

/-! S: parts of a share. -/
namespace S
open Z PySem PySem.Spec PyProof.Rows L2
theorem ixN_nat' {n j : Nat} (hj : j < n) : ixN n (j : Int) = some j := by
  unfold ixN
  rw [if_pos (by omega), if_pos (by omega)]
  simp
def pD (q : List Nat) : D := .lst (nL q)
structure PartsOk (ps : List (List Nat)) (done : List Nat) : Prop where
  el : ∀ q ∈ ps, q ≠ [] ∧ q.Sublist done
  pm : ps.flatten.Perm done
theorem PartsOk.len {ps : List (List Nat)} {done : List Nat} (h : PartsOk ps done) : ps.length ≤ done.length := by
  rw [← h.pm.length_eq]
  have : ∀ q ∈ ps, q ≠ [] := fun q hq => (h.el q hq).1
  clear h
  induction ps with
  | nil => simp
  | cons a r ih =>
    have h1 := ih fun q hq => this q (List.mem_cons_of_mem _ hq)
    have h2 : 0 < a.length := List.length_pos_iff.mpr (this a (List.mem_cons_self ..))
    rw [List.flatten_cons, List.length_append, List.length_cons]
    omega
theorem PartsOk.snoc {ps : List (List Nat)} {done : List Nat} {k : Nat} (h : PartsOk ps done) : PartsOk (ps ++ [[k]]) (done ++ [k]) := by
  refine ⟨fun q hq => ?_, ?_⟩
  · rw [List.mem_append, List.mem_singleton] at hq
    rcases hq with hq | rfl
    · exact ⟨(h.el q hq).1, (h.el q hq).2.trans (List.sublist_append_left _ _)⟩
    · exact ⟨by simp, List.sublist_append_right _ _⟩
  · rw [List.flatten_append]
    exact h.pm.append_right _
theorem flatten_set : ∀ {ps : List (List Nat)} {i k : Nat} {q : List Nat}, ps[i]? = some q → (ps.set i (q ++ [k])).flatten.Perm (ps.flatten ++ [k])
  | [], i, k, q, h => by simp at h
  | a :: r, 0, k, q, h => by
    simp at h
    subst h
    simp only [List.set_cons_zero, List.flatten_cons, List.append_assoc]
    exact List.Perm.append_left _ List.perm_append_comm
  | a :: r, i + 1, k, q, h => by
    simp only [List.set_cons_succ, List.flatten_cons, List.append_assoc]
    exact (flatten_set (by simpa using h)).append_left _
theorem PartsOk.grow {ps : List (List Nat)} {done q : List Nat} {i k : Nat} (h : PartsOk ps done) (hq : ps[i]? = some q) : PartsOk (ps.set i (q ++ [k])) (done ++ [k]) := by
  refine ⟨fun z hz => ?_, (flatten_set hq).trans (h.pm.append_right _)⟩
  rcases List.mem_or_eq_of_mem_set hz with hz | rfl
  · exact ⟨(h.el z hz).1, (h.el z hz).2.trans (List.sublist_append_left _ _)⟩
  · exact ⟨by simp, (h.el q (List.mem_of_getElem? hq)).2.append (List.Sublist.refl _)⟩
theorem set_pD {ps : List (List Nat)} {i k : Nat} {q : List Nat} : (ps.map pD).set i (.lst (nL q ++ [.int (k : Int)])) = (ps.set i (q ++ [k])).map pD := by
  rw [List.map_set]
  simp [pD, nL]
theorem law_parts_e {l : List D} {ks : List Nat} (h : DSl l) (h2 : 2 ≤ ks.length) (h8 : ks.length ≤ 1000) : ∃ (ps : List (List Nat)) (l' : List D), c__law_parts [⟨.lst l, 1⟩, ⟨nD ks, 0⟩] = .ok (⟨Box.d ps, 0⟩, [⟨.lst l', 1⟩, ⟨nD ks, 0⟩]) ∧ DSl l' ∧ 2 ≤ ps.length ∧ PartsOk ps ks := by
  obtain ⟨k0, kr, rfl⟩ : ∃ a r, ks = a :: r := by
    cases ks with
    | nil => simp at h2
    | cons a r => exact ⟨a, r, rfl⟩
  obtain ⟨⟨l1, ps, c3, c4⟩, e1, h1, done, hd, hp⟩ := for_rel (it := ⟨nL kr, none⟩) (g := gN 3) (body := b__law_parts_1) (L := [0]) (fun (i : Nat) => D.int (i : Int))
    (fun s : List D × List (List Nat) × Option Cell × Option Cell => [some ⟨.lst s.1, 1⟩, some ⟨nD (k0 :: kr), 0⟩, some ⟨.lst (s.2.1.map pD), 2⟩, s.2.2.1, s.2.2.2, none])
    (fun r s => DSl s.1 ∧ ∃ done, k0 :: kr = done ++ r ∧ PartsOk s.2.1 done) (ds := kr) (s := (l, [[k0]], none, none)) ⟨h, [k0], rfl, by simp, by simp⟩ (fun a r ⟨l, ps, c3, c4⟩ ⟨h, done, hd, hp⟩ => by
      simp only at h hp
      have hln : done.length ≤ 1000 := by
        have := congrArg List.length hd
        simp only [List.length_cons, List.length_append] at this h8
        omega
      have hpl := hp.len
      obtain ⟨n, l2, e, h3, hn⟩ := drawN_e (m := ps.length + 1) h (by omega) (by omega)
      rw [Int.natCast_add, show ((1 : Nat) : Int) = 1 from rfl] at e
      by_cases hnp : n = ps.length
      · refine ⟨(l2, ps ++ [[a]], iC a, iC n), ?_, h3, done ++ [a], by simp [hd], hp.snoc⟩
        have hlen : (ps.map pD).length < 16777216 := by simp; omega
        subst hnp
        simp (maxSteps := 1000000) -implicitDefEqProofs [step1, b__law_parts_1, e, mApp2, hlen, show ps.length < 16777216 by omega, pD, nL]
      · have hlt : n < ps.length := by omega
        have hix : ixN ps.length (n : Int) = some n := ixN_nat' hlt
        have hne : ¬ (n : Int) = (ps.length : Int) := by omega
        have hg : (ps.map pD)[n]? = some (.lst (nL ps[n])) := by simp [hlt, pD]
        have hpn : ps[n]? = some ps[n] := List.getElem?_eq_getElem hlt
        have hsl : (ps[n]).length ≤ done.length := ((hp.el _ (List.getElem_mem hlt)).2).length_le
        refine ⟨(l2, ps.set n (ps[n] ++ [a]), iC a, iC n), ?_, h3, done ++ [a], by simp [hd], hp.grow hpn⟩
        have hlen : (ps[n]).length < 16777216 := by omega
        have hs := set_pD (ps := ps) (i := n) (k := a) (q := ps[n])
        simp (maxSteps := 1000000) -implicitDefEqProofs [-List.getElem?_map, step1, b__law_parts_1, e, mAppIx, hne, hix, hg, hlen, hs, esc])
  rw [List.append_nil] at hd
  subst hd
  have ec : cutD (nL (k0 :: kr)) (some 1) none = nL kr := by
    have := cutD_from (l := nL (k0 :: kr)) (k := 1) (by simp [nL])
    rw [show ((1 : Nat) : Int) = 1 from rfl] at this
    rw [this]
    rfl
  have comp : ∀ (ps : List (List Nat)) (l : List D) (c3 c4 : Option Cell), ps.length ≤ 1000 → loopC ⟨ps.map pD, none⟩ (gN 5) mYes e__law_parts_2 [5] (ps.map pD) [some ⟨.lst l, 1⟩, some ⟨nD (k0 :: kr), 0⟩, some ⟨.lst (ps.map pD), 0⟩, c3, c4, none] = .ok (ps.map nD, [some ⟨.lst l, 1⟩, some ⟨nD (k0 :: kr), 0⟩, some ⟨.lst (ps.map pD), 0⟩, c3, c4, none]) := fun ps l c3 c4 _ =>
    comp_m pD nD fun q hq => by
      simp -implicitDefEqProofs [comp1, e__law_parts_2, pD]
      rfl
  simp only at hp h1 e1
  have hpl := hp.len
  have e0 : kr.map (fun (i : Nat) => D.int (i : Int)) = nL kr := rfl
  rw [e0] at e1
  have ex : fIx [⟨nD (k0 :: kr), 0⟩, ⟨.int 0, 0⟩] = .ok ⟨.int (k0 : Int), 0⟩ := ixT0
  have el : ∀ q : List Nat, D.lst (nL q) = pD q := fun _ => rfl
  have el1 : D.lst [.int (k0 : Int)] = pD [k0] := rfl
  have es : fSl ⟨nD (k0 :: kr), 0⟩ (some 1) none = .ok ⟨.tup (nL kr), 0⟩ := by rw [← ec]; rfl
  have els : fList [⟨.tup (nL kr), 0⟩] = .ok ⟨pD kr, 1⟩ := rfl
  have f1 : freshes [Src.v ⟨pD [k0], 1⟩] = some [nL [k0]] := rfl
  have f2 : freshes [Src.v ⟨pD [k0], 1⟩, Src.v ⟨pD kr, 1⟩] = some [nL [k0], nL kr] := rfl
  have et : ∀ ps : List (List Nat), D.tup (ps.map nD) = Box.d ps := fun _ => rfl
  by_cases h1p : ps.length = 1
  · have hkr : kr ≠ [] := fun z => by subst z; simp at h2
    refine ⟨[[k0], kr], l1, ?_, h1, by simp, ⟨fun q hq => ?_, by simp⟩⟩
    · have ec2 := comp [[k0], kr] l1 c3 c4 (by simp)
      have et2 := et [[k0], kr]
      simp only [List.map_cons, List.map_nil] at ec2 e1 et2
      have elp : fList [⟨pD kr, 1⟩] = .ok ⟨pD kr, 1⟩ := rfl
      have ei : itemsOf (D.lst [pD [k0], pD kr]) = some [pD [k0], pD kr] := rfl
      simp (maxSteps := 1000000) -implicitDefEqProofs [c__law_parts, m__law_parts, mLst2, f1, f2, ex, el, el1, es, els, e1, h1p, elp, ei, ec2, et2]
    · simp only [List.mem_cons, List.not_mem_nil, or_false] at hq
      rcases hq with rfl | rfl
      · exact ⟨by simp, by simp⟩
      · exact ⟨hkr, List.sublist_cons_self _ _⟩
  · have ec2 := comp ps l1 c3 c4 (by simp only [List.length_cons] at h8; simp only [List.length_cons] at hpl; omega)
    refine ⟨ps, l1, ?_, h1, ?_, hp⟩
    · simp only [List.map_cons, List.map_nil] at e1
      have hle : ps.length ≤ 16777216 := by omega
      have h1p' : ¬ (ps.length : Int) = 1 := by omega
      simp (maxSteps := 1000000) -implicitDefEqProofs [c__law_parts, m__law_parts, mLst2, f1, ex, el, el1, es, els, e1, h1p', ec2, et, hle]
    · have : ps.length ≠ 0 := fun z => by
        have := hp.pm.length_eq
        rw [List.length_eq_zero_iff.mp z] at this
        simp at this
      omega
end S

/-! S: the drawn hearing. -/
namespace S
open Z PySem PySem.Spec PyProof.Rows L2
theorem law_narrowed_D {bs l : List D} {p : Nat} (hp : p < bs.length) (hl : bs.length ≤ 1000) : c__law_narrowed [⟨.tup bs, 0⟩, ⟨.int (p : Int), 0⟩, ⟨.tup l, 0⟩] = .ok (⟨.tup (bs.set p (.tup l)), 0⟩, [⟨.tup bs, 0⟩, ⟨.int (p : Int), 0⟩, ⟨.tup l, 0⟩]) := by
  have e1 := cutD_to (l := bs) (k := p) (by omega)
  have e2 := cutD_from (l := bs) (k := p + 1) (by omega)
  rw [show ((p + 1 : Nat) : Int) = (p : Int) + 1 by omega] at e2
  have e3 : bs.set p (.tup l) = bs.take p ++ .tup l :: bs.drop (p + 1) := by rw [List.set_eq_take_append_cons_drop, if_pos hp]
  simp [c__law_narrowed, m__law_narrowed, e1, e2, f_addT, e3, show p ≤ 10000 by omega, show bs.length - (p + 1) ≤ 10000 by omega, show bs.length ≤ 10000 by omega, Nat.min_eq_left (show p ≤ bs.length by omega), show p + 1 ≤ 10000 by omega]
theorem law_narrowed_ok {b : Box} {p : Nat} {q : List Nat} (hp : p < b.length) (hl : b.length ≤ 1000) : c__law_narrowed [⟨Box.d b, 0⟩, ⟨.int (p : Int), 0⟩, ⟨nD q, 0⟩] = .ok (⟨Box.d (b.set p q), 0⟩, [⟨Box.d b, 0⟩, ⟨.int (p : Int), 0⟩, ⟨nD q, 0⟩]) := by
  have e := law_narrowed_D (bs := b.map nD) (l := nL q) (p := p) (by simpa using hp) (by simpa using hl)
  have e2 : (b.map nD).set p (.tup (nL q)) = (b.set p q).map nD := by rw [List.map_set]; rfl
  rw [e2] at e
  exact e
/-- the two parts: the first and the rest -/
theorem PartsOk.two {q : List Nat} {ps : List (List Nat)} {ks : List Nat} (h : PartsOk (q :: ps) ks) (hn : ks.Nodup) (h2 : 2 ≤ (q :: ps).length) : PartsOk [q, ks.filter fun k => decide (k ∉ q)] ks := by
  have hp := h.pm
  rw [List.flatten_cons] at hp
  have hnd : (q ++ ps.flatten).Nodup := hp.nodup_iff.mpr hn
  have e1 : q.filter (fun k => decide (k ∉ q)) = [] := by
    rw [List.filter_eq_nil_iff]
    intro a ha
    simp [ha]
  have e2 : ps.flatten.filter (fun k => decide (k ∉ q)) = ps.flatten := by
    rw [List.filter_eq_self]
    intro a ha
    have := (List.nodup_append.mp hnd).2.2
    simp only [decide_eq_true_eq]
    intro z
    exact this a z a ha rfl
  have hf := hp.filter fun k => decide (k ∉ q)
  rw [List.filter_append, e1, e2, List.nil_append] at hf
  refine ⟨fun z hz => ?_, ?_⟩
  · simp only [List.mem_cons, List.not_mem_nil, or_false] at hz
    rcases hz with rfl | rfl
    · exact h.el _ (List.mem_cons_self ..)
    · refine ⟨fun z => ?_, List.filter_sublist⟩
      rw [z] at hf
      cases ps with
      | nil => simp at h2
      | cons a r =>
        have h3 := (h.el a (by simp)).1
        have := hf.length_eq
        rw [List.flatten_cons, List.length_append] at this
        have h4 := List.length_pos_iff.mpr h3
        simp only [List.length_nil] at this
        omega
  · simp only [List.flatten_cons, List.flatten_nil, List.append_nil]
    exact (hf.symm.append_left q).trans hp
/-! many leaves -/
def Hr.many : Hr → Nat
  | .fin => 1
  | .ask _ rows => (rows.attach.map fun ⟨r, _⟩ => r.2.many).sum
termination_by h => sizeOf h
decreasing_by
  rename_i hr
  have := List.sizeOf_lt_of_mem hr
  obtain ⟨a, b⟩ := r
  simp at this ⊢
  omega
theorem Hr.many_fin : Hr.fin.many = 1 := by unfold Hr.many; rfl
theorem Hr.many_ask {p : Nat} {rows : List (List Nat × Hr)} : (Hr.ask p rows).many = (rows.map fun r => r.2.many).sum := by
  conv => lhs; unfold Hr.many
  congr 1
  refine List.ext_getElem (by simp) fun i h1 h2 => ?_
  simp
theorem sum_le {l : List Nat} {k : Nat} (h : ∀ x ∈ l, x ≤ k) : l.sum ≤ l.length * k := by
  induction l with
  | nil => simp
  | cons a r ih =>
    have h1 := h a (List.mem_cons_self ..)
    have h2 := ih fun x hx => h x (List.mem_cons_of_mem _ hx)
    rw [List.sum_cons, List.length_cons, Nat.succ_mul]
    omega
end S

namespace S
open Z PySem PySem.Spec PyProof.Rows L2
theorem f_div {a b : Nat} {k k' : Nat} (h : 0 < b) (h' : b < 4611686018427387904) : fDiv [⟨.int (a : Int), k⟩, ⟨.int (b : Int), k'⟩] = .ok ⟨.int ((a / b : Nat) : Int), 0⟩ := by
  unfold fDiv fI2
  simp only
  rw [if_pos ⟨by omega, by omega⟩]
  rfl
theorem getD_set_ne' {b : Box} {p i : Nat} {q : List Nat} (h : i ≠ p) : (b.set p q).getD i [] = b.getD i [] := by
  simp [List.getD_eq_getElem?_getD, List.getElem?_set_ne (Ne.symm h)]
theorem law_able (f : FD) {l : List D} {b : Box} {m : D} : loopC ⟨rgI b.length, none⟩ (gN 4) (t__law_hearing_1 f) (e__law_hearing_2 f) [4] (rgI b.length) [some ⟨.lst l, 1⟩, some ⟨Box.d b, 0⟩, some ⟨m, 0⟩, none, none, none, none, none, none] =
    .ok (nL ((List.range b.length).filter fun i => decide (1 < (b.getD i []).length)), [some ⟨.lst l, 1⟩, some ⟨Box.d b, 0⟩, some ⟨m, 0⟩, none, none, none, none, none, none]) :=
  comp_f (fun (i : Nat) => D.int (i : Int)) (fun i => decide (1 < (b.getD i []).length)) (fun (i : Nat) => D.int (i : Int)) fun i hi => by
    have hi2 : i < b.length := by simpa using hi
    have ex : fIx [⟨Box.d b, 0⟩, ⟨.int (i : Int), 0⟩] = .ok ⟨nD (b.getD i []), 0⟩ := ixT (map_some hi2)
    by_cases hl : 1 < (b.getD i []).length
    · have hl' : ((1 : Int) < ((b.getD i []).length : Int)) = True := eq_true (by omega)
      simp -implicitDefEqProofs [-List.getD_eq_getElem?_getD, comp1, t__law_hearing_1, e__law_hearing_2, ex, hl, hl']
    · have hl' : ((1 : Int) < ((b.getD i []).length : Int)) = False := eq_false (by omega)
      simp -implicitDefEqProofs [-List.getD_eq_getElem?_getD, comp1, t__law_hearing_1, e__law_hearing_2, ex, hl, hl']
def HearE (f : FD) (many : Nat) : Prop := ∀ {l : List D} {b : Box}, DSl l → b.length ≤ 100 → (∀ q ∈ b, q.length ≤ 100 ∧ q.Nodup) →
    ∃ (h : Hr) (l' : List D), f [⟨.lst l, 1⟩, ⟨Box.d b, 0⟩, ⟨.int (many : Int), 0⟩] = .ok (⟨h.d, 0⟩, [⟨.lst l', 1⟩, ⟨Box.d b, 0⟩, ⟨.int (many : Int), 0⟩]) ∧ DSl l' ∧ HearOk b h ∧ h.many ≤ max 1 many
theorem box_len {b : Box} {k : Nat} : fLen [⟨Box.d b, k⟩] = .ok ⟨.int (b.length : Int), 0⟩ := by
  have : fLen [⟨.tup (b.map nD), k⟩] = .ok ⟨.int (b.length : Int), 0⟩ := by simp
  exact this
theorem law_hearing_loop (f : FD) {many p : Nat} {l : List D} {b : Box} {ps : List (List Nat)} {c3 c6 c8 : Option Cell} (hm1 : many ≤ 1000) (hf : ∀ m', m' ≤ many / 2 → HearE f m') (h : DSl l) (hb : b.length ≤ 100) (hq : ∀ q ∈ b, q.length ≤ 100 ∧ q.Nodup) (hp : p < b.length)
    (hps : PartsOk ps (b.getD p [])) (h2 : 2 ≤ ps.length) (hpm : ps.length ≤ many) :
    ∃ (l' : List D) (c8' : Option Cell) (rows : List (List Nat × Hr)), loopF ⟨ps.map nD, none⟩ (gN 8) (b__law_hearing_5 f) [0] (ps.map nD) [some ⟨.lst l, 1⟩, some ⟨Box.d b, 0⟩, iC many, c3, iC p, some ⟨Box.d ps, 0⟩, c6, some ⟨.lst [], 1⟩, c8] =
      .ok (.next, [some ⟨.lst l', 1⟩, some ⟨Box.d b, 0⟩, iC many, c3, iC p, some ⟨Box.d ps, 0⟩, c6, some ⟨.lst (rows.map rowD), 1⟩, c8']) ∧ DSl l' ∧ Paired (fun q r => r.1 = q ∧ HearOk (b.set p q) r.2 ∧ r.2.many ≤ max 1 (many / ps.length)) ps rows := by
  obtain ⟨⟨l', c8'⟩, rows, e, h1, hpp⟩ := for_app (it := ⟨ps.map nD, none⟩) (g := gN 8) (body := b__law_hearing_5 f) (L := [0]) (ds := ps) (s := (l, c8)) (acc := []) nD
    (fun (s : List D × Option Cell) (acc : List (List Nat × Hr)) => [some ⟨.lst s.1, 1⟩, some ⟨Box.d b, 0⟩, iC many, c3, iC p, some ⟨Box.d ps, 0⟩, c6, some ⟨.lst (acc.map rowD), 1⟩, s.2]) (fun s => DSl s.1) (fun q r => r.1 = q ∧ HearOk (b.set p q) r.2 ∧ r.2.many ≤ max 1 (many / ps.length)) h (by simp; omega) (fun q hqm s acc hs hl => by
      have hdv : many / ps.length ≤ many / 2 := Nat.div_le_div_left h2 (by omega)
      have hsub := (hps.el q hqm).2
      have hbp : b.getD p [] ∈ b := by simp [List.getElem?_eq_getElem hp]
      obtain ⟨hh, l2, e2, h3, h4, h5⟩ := hf (many / ps.length) hdv (l := s.1) (b := b.set p q) hs (by simpa using hb) (fun z hz => by
        rcases List.mem_or_eq_of_mem_set hz with hz | rfl
        · exact hq z hz
        · exact ⟨Nat.le_trans hsub.length_le (hq _ hbp).1, hsub.nodup (hq _ hbp).2⟩)
      refine ⟨(l2, some ⟨nD q, 0⟩), (q, hh), ?_, h3, rfl, h4, h5⟩
      have en := law_narrowed_ok (b := b) (p := p) (q := q) hp (by omega)
      have ed := f_div (a := many) (b := ps.length) (k := 0) (k' := 0) (by omega) (by omega)
      have er : D.tup [nD q, hh.d] = rowD (q, hh) := rfl
      rw [Int.natCast_ediv] at e2 ed
      simp (maxSteps := 1000000) -implicitDefEqProofs [step1, b__law_hearing_5, en, ed, box_len, e2, f_app (show (acc.map rowD).length ≤ 10000 by simpa using hl), er])
  simp only [List.nil_append] at e
  exact ⟨l', c8', rows, e, h1, hpp⟩
theorem law_hearing_step (f : FD) {many : Nat} (hm1 : many ≤ 1000) (hf : 2 ≤ many → ∀ m', m' ≤ many / 2 → HearE f m') : HearE (runDef 9 (m__law_hearing f)) many := by
  intro l b h hb hq
  have ea := law_able f (l := l) (b := b) (m := .int (many : Int))
  have el : fLen [⟨Box.d b, 0⟩] = .ok ⟨.int (b.length : Int), 0⟩ := by
    have : fLen [⟨.tup (b.map nD), 0⟩] = .ok ⟨.int (b.length : Int), 0⟩ := by simp
    exact this
  have eb1 := rgB_nat (show b.length ≤ 16777216 by omega)
  have hb2 : b.length ≤ 16777216 := by omega
  generalize hab : (List.range b.length).filter (fun i => decide (1 < (b.getD i []).length)) = ab at ea
  by_cases h0 : ab = []
  · subst h0
    refine ⟨.fin, l, ?_, h, .fin, by rw [Hr.many_fin]; omega⟩
    have e0 : nL [] = [] := rfl
    rw [e0] at ea
    simp (maxSteps := 1000000) -implicitDefEqProofs [m__law_hearing, eb1, rgD_nat', hb2, ea, el, Hr.d_fin]
  by_cases hm2 : many < 2
  · refine ⟨.fin, l, ?_, h, .fin, by rw [Hr.many_fin]; omega⟩
    have hm2' : ((many : Int) < 2) = True := eq_true (by omega)
    have h0' : (nL ab).isEmpty = false := by
      cases ab with
      | nil => exact absurd rfl h0
      | cons a r => rfl
    simp (maxSteps := 1000000) -implicitDefEqProofs [m__law_hearing, eb1, rgD_nat', hb2, ea, el, Hr.d_fin, h0', hm2']
  obtain ⟨n, l1, e1, h1, hn⟩ := draw_e (m := 8) h (by decide) (by decide)
  have hm2' : ((many : Int) < 2) = False := eq_false (by omega)
  have h0' : (nL ab).isEmpty = false := by
    cases ab with
    | nil => exact absurd rfl h0
    | cons a r => rfl
  by_cases hn3 : n = 3
  · refine ⟨.fin, l1, ?_, h1, .fin, by rw [Hr.many_fin]; omega⟩
    subst hn3
    simp (maxSteps := 1000000) -implicitDefEqProofs [m__law_hearing, eb1, rgD_nat', hb2, ea, el, Hr.d_fin, h0', hm2', e1]
  have hn3' : ((n : Int) = 3) = False := eq_false (by omega)
  have hab1 : 0 < ab.length := List.length_pos_iff.mpr h0
  have hab2 : ab.length ≤ 100 := by
    rw [← hab]
    have := List.length_filter_le (fun i => decide (1 < (b.getD i []).length)) (List.range b.length)
    rw [List.length_range] at this
    omega
  have hpk := pickL_s (l := l1) (row := nL ab) (k := 1) (by omega) h1 (by rw [nL_len]; exact hab1) (by rw [nL_len]; omega)
  have hk := dN_ltN (l := l1) (m := ab.length) h1 hab1 (by omega)
  rw [nL_len] at hpk
  have hg : (nL ab).getD (dN l1 (ab.length : Nat)) .non = .int (ab.getD (dN l1 (ab.length : Nat)) 0 : Nat) := by simp [nL, List.getElem?_eq_getElem hk]
  have hmem : ab.getD (dN l1 (ab.length : Nat)) 0 ∈ ab := by simp [List.getElem?_eq_getElem hk]
  rw [hg] at hpk
  generalize ab.getD (dN l1 (ab.length : Nat)) 0 = p at hpk hmem
  rw [← hab, List.mem_filter] at hmem
  obtain ⟨hp, hp2⟩ := hmem
  rw [List.mem_range] at hp
  simp only [decide_eq_true_eq] at hp2
  have hbp : b.getD p [] ∈ b := by simp [List.getElem?_eq_getElem hp]
  have hqp := hq _ hbp
  have ex : fIx [⟨Box.d b, 0⟩, ⟨.int (p : Int), 0⟩] = .ok ⟨nD (b.getD p []), 0⟩ := ixT (map_some hp)
  obtain ⟨ps, l3, e3, h3, hps2, hpo⟩ := law_parts_e (l := dL l1 (ab.length : Nat)) (ks := b.getD p []) h1.d (by omega) (by omega)
  have fin : ∀ {ps : List (List Nat)} {rows : List (List Nat × Hr)}, PartsOk ps (b.getD p []) → 2 ≤ ps.length → ps.length ≤ many → Paired (fun q r => r.1 = q ∧ HearOk (b.set p q) r.2 ∧ r.2.many ≤ max 1 (many / ps.length)) ps rows → HearOk b (.ask p rows) ∧ (Hr.ask p rows).many ≤ max 1 many := fun {ps rows} hpo h2 hpm hpp => by
    have hmap : rows.map (·.1) = ps := by
      clear hpo h2 hpm
      generalize max 1 (many / ps.length) = c at hpp
      induction hpp with
      | nil => rfl
      | cons h1 _ ih => rw [List.map_cons, ih, h1.1]
    have hall : ∀ r ∈ rows, HearOk (b.set p r.1) r.2 ∧ r.2.many ≤ max 1 (many / ps.length) := pr_all hpp fun a r h => ⟨h.1 ▸ h.2.1, h.2.2⟩
    refine ⟨.ask hp (by rw [← pr_len hpp]; exact h2) (fun r hr => hpo.el _ (by rw [← hmap]; exact List.mem_map_of_mem hr)) (by rw [hmap]; exact hpo.pm) fun r hr => (hall r hr).1, ?_⟩
    rw [Hr.many_ask]
    have hd1 : 1 ≤ many / ps.length := (Nat.one_le_div_iff (by omega)).mpr hpm
    have := sum_le (l := rows.map fun r => r.2.many) (k := many / ps.length) fun x hx => by
      obtain ⟨r, hr, rfl⟩ := List.mem_map.mp hx
      have := (hall r hr).2
      omega
    rw [List.length_map, ← pr_len hpp] at this
    have h4 := Nat.mul_div_le many ps.length
    omega
  by_cases hlt : many < ps.length
  · obtain ⟨q, r, rfl⟩ : ∃ a r, ps = a :: r := by
      cases ps with
      | nil => simp at hps2
      | cons a r => exact ⟨a, r, rfl⟩
    have htwo := hpo.two hqp.2 hps2
    have ec := comp_f (it := ⟨nL (b.getD p []), none⟩) (g := gN 6) (tt := t__law_hearing_3 f) (me := e__law_hearing_4 f) (vs := [6]) (ρ := [some ⟨.lst l3, 1⟩, some ⟨Box.d b, 0⟩, some ⟨.int (many : Int), 0⟩, some ⟨.lst (nL ab), 1⟩, some ⟨.int (p : Int), 0⟩, some ⟨Box.d (q :: r), 0⟩, none, none, none]) (fun (i : Nat) => D.int (i : Int)) (fun k => decide (k ∉ q)) (fun (i : Nat) => D.int (i : Int)) (ds := b.getD p []) (fun i hi => by
      have ex0 : fIx [⟨Box.d (q :: r), 0⟩, ⟨.int 0, 0⟩] = .ok ⟨nD q, 0⟩ := ixT0
      by_cases hiq : i ∈ q
      · simp -implicitDefEqProofs [comp1, t__law_hearing_3, e__law_hearing_4, ex0, f_inN, hiq]
      · simp -implicitDefEqProofs [comp1, t__law_hearing_3, e__law_hearing_4, ex0, f_inN, hiq])
    obtain ⟨l4, c8, rows, e4, h4, hpp⟩ := law_hearing_loop f (c3 := some ⟨.lst (nL ab), 1⟩) (c6 := none) (c8 := none) hm1 (hf (by omega)) h3 hb hq hp htwo (by simp) (by simp; omega)
    obtain ⟨f1, f2⟩ := fin htwo (by simp) (by simp; omega) hpp
    refine ⟨.ask p rows, l4, ?_, h4, f1, f2⟩
    have hlt' : ((many : Int) < (r.length : Int) + 1) = True := eq_true (by simp only [List.length_cons] at hlt; omega)
    have ex0 : fIx [⟨Box.d (q :: r), 0⟩, ⟨.int 0, 0⟩] = .ok ⟨nD q, 0⟩ := ixT0
    have ec0 : (b.getD p []).map (fun (i : Nat) => D.int (i : Int)) = nL (b.getD p []) := rfl
    have ec1 : ((b.getD p []).filter fun k => decide (k ∉ q)).map (fun (i : Nat) => D.int (i : Int)) = nL ((b.getD p []).filter fun k => decide (k ∉ q)) := rfl
    rw [ec0, ec1] at ec
    have ed : D.tup [nD q, .tup (nL ((b.getD p []).filter fun k => decide (k ∉ q)))] = Box.d [q, (b.getD p []).filter fun k => decide (k ∉ q)] := rfl
    have ei : itemsOf (Box.d [q, (b.getD p []).filter fun k => decide (k ∉ q)]) = some [nD q, nD ((b.getD p []).filter fun k => decide (k ∉ q))] := rfl
    simp only [List.map_cons, List.map_nil] at e4
    have ei2 : itemsOf (nD (b.getD p [])) = some (nL (b.getD p [])) := rfl
    generalize ((b.getD p []).filter fun k => decide (k ∉ q)) = z at ec ed ei e4
    simp (maxSteps := 1000000) -implicitDefEqProofs [-List.getD_eq_getElem?_getD, m__law_hearing, eb1, rgD_nat', hb2, ea, el, Hr.d_ask, h0', hm2', e1, hn3', hpk, ex, e3, box_len, hlt', ex0, ei2, show (b.getD p []).length ≤ 16777216 by omega, ec, ed, ei, e4]
  · obtain ⟨l4, c8, rows, e4, h4, hpp⟩ := law_hearing_loop f (c3 := some ⟨.lst (nL ab), 1⟩) (c6 := none) (c8 := none) hm1 (hf (by omega)) h3 hb hq hp hpo hps2 (by omega)
    obtain ⟨f1, f2⟩ := fin hpo hps2 (by omega) hpp
    refine ⟨.ask p rows, l4, ?_, h4, f1, f2⟩
    have hlt' : ((many : Int) < ((ps.length : Nat) : Int)) = False := eq_false (by omega)
    have ei : itemsOf (Box.d ps) = some (ps.map nD) := rfl
    simp (maxSteps := 1000000) -implicitDefEqProofs [-List.getD_eq_getElem?_getD, m__law_hearing, eb1, rgD_nat', hb2, ea, el, Hr.d_ask, h0', hm2', e1, hn3', hpk, ex, e3, box_len, hlt', ei, e4]
theorem law_hearing_e : ∀ (n many : Nat), many < 2 ^ n → many ≤ 1000 → HearE (c__law_hearing (n + 1)) many := by
  intro n
  induction n with
  | zero =>
    intro many h1 h2
    exact law_hearing_step (c__law_hearing 0) h2 fun h => by simp at h1; omega
  | succ n ih =>
    intro many h1 h2
    exact law_hearing_step (c__law_hearing (n + 1)) h2 fun _ m' h' => ih m' (by rw [Nat.pow_succ] at h1; omega) (by omega)
end S

namespace S
open Z PySem PySem.Spec PyProof.Rows L2
theorem rg3_down {n : Nat} (h : n ≤ 100000) : rg3B ((n : Int) - 1) (-1) (-1) = true ∧ rg3D ((n : Int) - 1) (-1) (-1) = (List.range n).reverse.map fun (i : Nat) => D.int (i : Int) := by
  have hs : Builtin.Range.rangeSize ((n : Int) - 1) (-1) (-1) = n := by
    unfold Builtin.Range.rangeSize
    simp
    omega
  refine ⟨?_, ?_⟩
  · unfold rg3B
    rw [hs]
    have : Builtin.Range.small ((n : Int) - 1) (-1) (-1) = true := by
      unfold Builtin.Range.small
      rw [hs]
      simp [Builtin.Range.rangeFitsLong]
      try omega
    rw [this]
    simp
  · unfold rg3D
    rw [hs]
    refine List.ext_getElem (by simp) fun i h1 h2 => ?_
    simp at h1 ⊢
    omega
/-- a loop by while -/
theorem while_rel {σ : Type} {t : MT} {body : MS} {L : List Nat} (enc : σ → Z.Env) (I : σ → Prop) (m : σ → Nat) (Done : σ → Prop)
    (h : ∀ s, I s → (t (enc s) = .ok (false, enc s) ∧ Done s) ∨ t (enc s) = .ok (true, enc s) ∧ ∃ s', body L (enc s) = .ok (.next, enc s') ∧ I s' ∧ m s' < m s) :
    ∀ (n : Nat) (s : σ), I s → m s < n → ∃ s', loopW t body L n (enc s) = .ok (.next, enc s') ∧ I s' ∧ Done s' := by
  intro n
  induction n with
  | zero => intro s _ h; omega
  | succ n ih =>
    intro s hs hm
    rcases h s hs with ⟨e, hd⟩ | ⟨e, s', e2, hs', hm'⟩
    · refine ⟨s, ?_, hs, hd⟩
      unfold loopW
      simp [e]
    · obtain ⟨s2, e3, h3⟩ := ih s' hs' (by omega)
      refine ⟨s2, ?_, h3⟩
      unfold loopW
      simp [e, e2, e3]
instance : Inhabited Hr := ⟨.fin⟩
def nodeD (x : List Nat × Box × Hr) : D := .tup [nD x.1, Box.d x.2.1, x.2.2.d]
def subN (p : Nat) (rows : List (List Nat × Hr)) (path : List Nat) (b : Box) (k : Nat) : List Nat × Box × Hr := (path ++ [k], b.set p (rows.getD k default).1, (rows.getD k default).2)
theorem fPop0_snoc {l : List D} {d : D} : fPop0 (l ++ [d]) [] = .ok (d, l) := by
  unfold fPop0
  simp
theorem nL_snoc {p : List Nat} {k : Nat} : nL p ++ [.int (k : Int)] = nL (p ++ [k]) := by simp [nL]
theorem law_nodes_for {found : List D} {w : List (List Nat × Box × Hr)} {c0 c1 c7 c8 c9 : Option Cell} {path : List Nat} {b : Box} {p : Nat} {rows : List (List Nat × Hr)} {L : List Nat} (hp : p < b.length) (hb : b.length ≤ 1000) (hpl : path.length ≤ 10000) (hw : w.length + rows.length ≤ 10000) (h8 : fz0 c8) (h9 : fz0 c9)
    (hL : 4 ∉ L ∧ 5 ∉ L ∧ 6 ∉ L ∧ 7 ∉ L ∧ 8 ∉ L ∧ 9 ∉ L) :
    ∃ c7' c8' c9', loopF ⟨(List.range rows.length).reverse.map fun (i : Nat) => D.int (i : Int), none⟩ (gN 7) b__law_nodes_1 L ((List.range rows.length).reverse.map fun (i : Nat) => D.int (i : Int)) [c0, c1, some ⟨.lst found, 1⟩, some ⟨.lst (w.map nodeD), 1⟩, some ⟨nD path, 0⟩, some ⟨Box.d b, 0⟩, some ⟨(Hr.ask p rows).d, 0⟩, c7, c8, c9] =
      .ok (.next, [c0, c1, some ⟨.lst found, 1⟩, some ⟨.lst ((w ++ (List.range rows.length).reverse.map (subN p rows path b)).map nodeD), 1⟩, some ⟨nD path, 0⟩, some ⟨Box.d b, 0⟩, some ⟨(Hr.ask p rows).d, 0⟩, c7', c8', c9']) ∧ fz0 c8' ∧ fz0 c9' := by
  obtain ⟨hL4, hL5, hL6, hL7, hL8, hL9⟩ := hL
  obtain ⟨⟨c7', c8', c9'⟩, bs, e, ⟨h1, h2⟩, hpp⟩ := for_app (it := ⟨(List.range rows.length).reverse.map fun (i : Nat) => D.int (i : Int), none⟩) (g := gN 7) (body := b__law_nodes_1) (L := L) (ds := (List.range rows.length).reverse) (s := (c7, c8, c9)) (acc := w) (fun (i : Nat) => D.int (i : Int))
    (fun (s : Option Cell × Option Cell × Option Cell) (acc : List (List Nat × Box × Hr)) => [c0, c1, some ⟨.lst found, 1⟩, some ⟨.lst (acc.map nodeD), 1⟩, some ⟨nD path, 0⟩, some ⟨Box.d b, 0⟩, some ⟨(Hr.ask p rows).d, 0⟩, s.1, s.2.1, s.2.2])
    (fun s => fz0 s.2.1 ∧ fz0 s.2.2) (fun k x => x = subN p rows path b k) ⟨h8, h9⟩ (by simp; omega) (fun k hk s acc ⟨hs1, hs2⟩ hl => by
      have hk2 : k < rows.length := by simpa using hk
      refine ⟨(iC k, some ⟨nD (rows.getD k default).1, 0⟩, some ⟨(rows.getD k default).2.d, 0⟩), subN p rows path b k, ?_, ⟨fz0_some, fz0_some⟩, rfl⟩
      have ex1 : fIx [⟨(Hr.ask p rows).d, 0⟩, ⟨.int 2, 0⟩] = .ok ⟨.tup (rows.map rowD), 0⟩ := by rw [Hr.d_ask]; exact ixT2
      have ex2 : fIx [⟨(Hr.ask p rows).d, 0⟩, ⟨.int 1, 0⟩] = .ok ⟨.int (p : Int), 0⟩ := by rw [Hr.d_ask]; exact ixT1
      have ex3 : fIx [⟨.tup (rows.map rowD), 0⟩, ⟨.int (k : Int), 0⟩] = .ok ⟨rowD (rows.getD k default), 0⟩ := ixT (map_some hk2)
      have en := law_narrowed_ok (b := b) (p := p) (q := (rows.getD k default).1) hp hb
      have eadd : fAdd [⟨nD path, 0⟩, ⟨.tup [.int (k : Int)], 0⟩] = .ok ⟨nD (path ++ [k]), 0⟩ := by
        have := f_addT (l := nL path) (m := [.int (k : Int)]) (k := 0) (k' := 0) (by rw [nL_len]; exact hpl) (by simp)
        rw [nL_snoc] at this
        exact this
      have er : D.tup [nD (path ++ [k]), Box.d (b.set p (rows.getD k default).1), (rows.getD k default).2.d] = nodeD (subN p rows path b k) := rfl
      have erd : rowD (rows.getD k default) = .tup [nD (rows.getD k default).1, (rows.getD k default).2.d] := rfl
      generalize (rows.getD k default).1 = q at *
      generalize (rows.getD k default).2.d = hh at *
      rw [erd] at ex3
      simp (maxSteps := 1000000) -implicitDefEqProofs [-List.getD_eq_getElem?_getD, step1, b__law_nodes_1, ex1, ex2, ex3, en, eadd, er, f_app (show (acc.map nodeD).length ≤ 10000 by simpa using hl), hL4, hL5, hL6, hL7, hL8, hL9])
  refine ⟨c7', c8', c9', ?_, h1, h2⟩
  have hbs : bs = (List.range rows.length).reverse.map (subN p rows path b) := by
    clear e h1 h2 hw
    generalize (List.range rows.length).reverse = ds at hpp ⊢
    induction hpp with
    | nil => rfl
    | cons h _ ih => rw [List.map_cons, h, ih]
  rw [hbs] at e
  exact e
/-! nodes -/
def pend (w : List (List Nat × Box × Hr)) : List (List Nat × Box × Hr) := w.reverse.flatMap fun x => x.2.2.nodes x.1 x.2.1
theorem pend_snoc {w : List (List Nat × Box × Hr)} {x : List Nat × Box × Hr} : pend (w ++ [x]) = x.2.2.nodes x.1 x.2.1 ++ pend w := by simp [pend]
theorem pend_sub {w : List (List Nat × Box × Hr)} {p : Nat} {rows : List (List Nat × Hr)} {path : List Nat} {b : Box} : pend (w ++ (List.range rows.length).reverse.map (subN p rows path b)) = (rows.zipIdx.map (subNodes p path b)).flatten ++ pend w := by
  unfold pend
  rw [List.reverse_append, List.flatMap_append, ← List.map_reverse, List.reverse_reverse, ← List.flatMap_def]
  congr 1
  rw [List.flatMap_map]
  rw [List.flatMap_def, List.flatMap_def]
  congr 1
  refine List.ext_getElem (by simp) fun i h1 h2 => ?_
  simp at h1
  simp [subN, subNodes, List.getElem?_eq_getElem h1]
theorem nodes_pos {h : Hr} {path : List Nat} {b : Box} : 1 ≤ (h.nodes path b).length := by
  cases h with
  | fin => rw [Hr.nodes_fin]; simp
  | ask p rows => rw [Hr.nodes_ask]; simp
theorem flatMap_len {α β : Type} {f : α → List β} (h : ∀ x, 1 ≤ (f x).length) : ∀ {l : List α}, l.length ≤ (l.flatMap f).length
  | [] => by simp
  | a :: r => by
    have h1 := h a
    have h2 := flatMap_len h (l := r)
    rw [List.flatMap_cons, List.length_append, List.length_cons]
    omega
theorem pend_len {w : List (List Nat × Box × Hr)} : w.length ≤ (pend w).length := by
  have := flatMap_len (f := fun x : List Nat × Box × Hr => x.2.2.nodes x.1 x.2.1) (fun _ => nodes_pos) (l := w.reverse)
  rw [List.length_reverse] at this
  exact this
theorem subs_len {p : Nat} {path : List Nat} {b : Box} {rows : List (List Nat × Hr)} : rows.length ≤ ((rows.zipIdx.map (subNodes p path b)).flatten).length := by
  have := flatMap_len (f := subNodes p path b) (fun _ => nodes_pos) (l := rows.zipIdx)
  rw [List.length_zipIdx] at this
  rw [← List.flatMap_def]
  exact this
theorem nodes_many {h : Hr} : ∀ {b : Box} {path : List Nat}, HearOk b h → (h.nodes path b).length + 1 ≤ 2 * h.many := by
  induction h using Hr.ind with
  | h0 => intro b path _; rw [Hr.nodes_fin, Hr.many_fin]; simp
  | h1 p rows ih =>
    intro b path hok
    cases hok with
    | ask hp h2 _ _ hsub =>
      rw [Hr.nodes_ask, Hr.many_ask, List.length_cons, List.length_flatten, List.map_map]
      have key : ∀ (rs : List (List Nat × Hr)) (j : Nat), (∀ r ∈ rs, r ∈ rows) → ((rs.zipIdx j).map (List.length ∘ subNodes p path b)).sum + rs.length ≤ 2 * (rs.map fun r => r.2.many).sum := by
        intro rs
        induction rs with
        | nil => intro j _; simp
        | cons r rs ih2 =>
          intro j hr
          have h3 := ih2 (j + 1) fun x hx => hr x (List.mem_cons_of_mem _ hx)
          have hr0 := hr r (List.mem_cons_self ..)
          have h4 := ih r hr0 (b := b.set p r.1) (path := path ++ [j]) (hsub r hr0)
          have h5 : (subNodes p path b (r, j)).length = (r.2.nodes (path ++ [j]) (b.set p r.1)).length := rfl
          simp only [List.zipIdx_cons, List.map_cons, List.sum_cons, Function.comp_apply, List.length_cons, h5]
          omega
      have := key rows 0 fun r h => h
      omega
theorem law_nodes_e {b : Box} {h : Hr} (hok : HearOk b h) (hb : b.length ≤ 1000) (hm : h.many ≤ 1000) : c__law_nodes [⟨Box.d b, 0⟩, ⟨h.d, 0⟩] = .ok (⟨.lst ((h.nodes [] b).map nodeD), 1⟩, [⟨Box.d b, 0⟩, ⟨h.d, 0⟩]) := by
  have htot := nodes_many (path := []) hok
  obtain ⟨⟨found, w, c4, c5, c6, c7, c8, c9⟩, e, ⟨hI, _⟩, hD⟩ := while_rel (t := t__law_nodes_2) (body := b__law_nodes_3) (L := [])
    (fun s : List (List Nat × Box × Hr) × List (List Nat × Box × Hr) × Option Cell × Option Cell × Option Cell × Option Cell × Option Cell × Option Cell =>
      [some ⟨Box.d b, 0⟩, some ⟨h.d, 0⟩, some ⟨.lst (s.1.map nodeD), 1⟩, some ⟨.lst (s.2.1.map nodeD), 1⟩, s.2.2.1, s.2.2.2.1, s.2.2.2.2.1, s.2.2.2.2.2.1, s.2.2.2.2.2.2.1, s.2.2.2.2.2.2.2])
    (fun s => s.1 ++ pend s.2.1 = h.nodes [] b ∧ (∀ x ∈ s.2.1, HearOk x.2.1 x.2.2 ∧ x.1.length ≤ s.1.length ∧ x.2.1.length = b.length) ∧ fz0 s.2.2.1 ∧ fz0 s.2.2.2.1 ∧ fz0 s.2.2.2.2.1 ∧ fz0 s.2.2.2.2.2.2.1 ∧ fz0 s.2.2.2.2.2.2.2)
    (fun s => (pend s.2.1).length) (fun s => s.2.1 = []) (fun ⟨found, w, c4, c5, c6, c7, c8, c9⟩ ⟨hI, hw, h4, h5, h6, h8, h9⟩ => by
      simp only at hI hw h4 h5 h6 h8 h9 ⊢
      rcases List.eq_nil_or_concat w with rfl | ⟨w, x, rfl⟩
      · left
        refine ⟨?_, rfl⟩
        simp -implicitDefEqProofs [t__law_nodes_2]
      · right
        rw [List.concat_eq_append] at *
        obtain ⟨path, bx, node⟩ := x
        refine ⟨?_, ?_⟩
        · simp -implicitDefEqProofs [t__law_nodes_2]
        · have hx := hw (path, bx, node) (by simp)
          simp only at hx
          have hwl : (w ++ [(path, bx, node)]).map nodeD = w.map nodeD ++ [nodeD (path, bx, node)] := by simp
          rw [pend_snoc] at hI
          simp only at hI
          have hlen := congrArg List.length hI
          rw [List.length_append, List.length_append] at hlen
          have hfl : (found.map nodeD).length ≤ 10000 := by rw [List.length_map]; omega
          have er : D.tup [nD path, Box.d bx, node.d] = nodeD (path, bx, node) := rfl
          have hfm : found.map nodeD ++ [nodeD (path, bx, node)] = (found ++ [(path, bx, node)]).map nodeD := by simp
          rw [hwl, pend_snoc]
          simp only
          cases node with
          | fin =>
            rw [Hr.nodes_fin] at hI hlen
            refine ⟨(found ++ [(path, bx, .fin)], w, some ⟨nD path, 0⟩, some ⟨Box.d bx, 0⟩, some ⟨Hr.fin.d, 0⟩, c7, c8, c9), ?_, ⟨by simpa using hI, fun y hy => ?_, fz0_some, fz0_some, fz0_some, h8, h9⟩, ?_⟩
            · have ex : fIx [⟨Hr.fin.d, 0⟩, ⟨.int 0, 0⟩] = .ok ⟨.str "end", 0⟩ := by rw [Hr.d_fin]; exact ixT0
              have ee : fEq [⟨.str "end", 0⟩, ⟨.str "ask", 0⟩] = .ok ⟨.bl false, 0⟩ := f_eqS (by decide +kernel) (by decide +kernel)
              generalize hfd : Hr.fin.d = fd at ex
              simp (maxSteps := 1000000) -implicitDefEqProofs [b__law_nodes_3, fPop0_snoc, ex, ee, f_app hfl, nodeD, hfd]
            · obtain ⟨q1, q2, q3⟩ := hw y (by simp [hy])
              exact ⟨q1, by simp; omega, q3⟩
            · simp only
              rw [Hr.nodes_fin]
              simp
          | ask p rows =>
            cases hx.1 with
            | ask hp h2 _ _ hsub =>
              rw [Hr.nodes_ask] at hI hlen
              have hsl := subs_len (p := p) (path := path) (b := bx) (rows := rows)
              have hpl := pend_len (w := w)
              rw [List.length_cons] at hlen
              have hrl : rows.length + 1 ≤ (h.nodes [] b).length := by omega
              have hwl2 : w.length ≤ 2000 := by omega
              obtain ⟨c7', c8', c9', ef, g8, g9⟩ := law_nodes_for (found := (found ++ [(path, bx, Hr.ask p rows)]).map nodeD) (w := w) (c0 := some ⟨Box.d b, 0⟩) (c1 := some ⟨h.d, 0⟩) (c7 := c7) (path := path) (rows := rows) (L := []) hp (by omega) (by omega) (by omega) h8 h9 (by simp)
              refine ⟨(found ++ [(path, bx, .ask p rows)], w ++ (List.range rows.length).reverse.map (subN p rows path bx), some ⟨nD path, 0⟩, some ⟨Box.d bx, 0⟩, some ⟨(Hr.ask p rows).d, 0⟩, c7', c8', c9'), ?_, ⟨?_, fun y hy => ?_, fz0_some, fz0_some, fz0_some, g8, g9⟩, ?_⟩
              · have ex : fIx [⟨(Hr.ask p rows).d, 0⟩, ⟨.int 0, 0⟩] = .ok ⟨.str "ask", 0⟩ := by rw [Hr.d_ask]; exact ixT0
                have ex2 : fIx [⟨(Hr.ask p rows).d, 0⟩, ⟨.int 2, 0⟩] = .ok ⟨.tup (rows.map rowD), 0⟩ := by rw [Hr.d_ask]; exact ixT2
                have ee : fEq [⟨.str "ask", 0⟩, ⟨.str "ask", 0⟩] = .ok ⟨.bl true, 0⟩ := f_eqS (by decide +kernel) (by decide +kernel)
                obtain ⟨er1, er2⟩ := rg3_down (n := rows.length) (by omega)
                rw [List.map_append, List.map_append] at ef
                simp only [List.map_cons, List.map_nil, nodeD] at ef
                generalize hfd : (Hr.ask p rows).d = fd at ex ex2 ef
                simp only [List.map_reverse, List.map_map] at ef er2
                simp (maxSteps := 1000000) -implicitDefEqProofs [b__law_nodes_3, fPop0_snoc, ex, ex2, ee, f_app hfl, nodeD, hfd, mRange3, er1, er2, ef]
              · simp only
                rw [pend_sub]
                simpa using hI
              · simp only [List.mem_append, List.mem_map, List.mem_reverse, List.mem_range] at hy
                rcases hy with hy | ⟨k, hk, rfl⟩
                · obtain ⟨q1, q2, q3⟩ := hw y (by simp [hy])
                  exact ⟨q1, by simp; omega, q3⟩
                · have hrk : rows.getD k default ∈ rows := by simp [List.getElem?_eq_getElem hk]
                  refine ⟨hsub _ hrk, ?_, ?_⟩
                  · simp [subN]; omega
                  · simp [subN]; exact hx.2.2
              · simp only
                rw [pend_sub, Hr.nodes_ask]
                simp)
    100000 ([], [([], b, h)], none, none, none, none, none, none) ⟨by simp [pend], by simp; exact hok, fz0_none, fz0_none, fz0_none, fz0_none, fz0_none⟩ (by simp [pend]; omega)
  simp only at hI hD
  subst hD
  rw [show pend [] = [] from rfl, List.append_nil] at hI
  subst hI
  have ein : D.tup [.tup [], Box.d b, h.d] = nodeD ([], b, h) := rfl
  have etb : fTuple [⟨Box.d b, 0⟩] = .ok ⟨Box.d b, 0⟩ := rfl
  simp only [List.map_nil, List.map_cons] at e
  simp (maxSteps := 1000000) -implicitDefEqProofs [c__law_nodes, m__law_nodes, mWhile, etb, ein, e]
end S

namespace S
open Z PySem PySem.Spec PyProof.Rows L2
def Hr.isFin : Hr → Bool
  | .fin => true
  | _ => false
def Hr.leaves (h : Hr) (path : List Nat) (b : Box) : List (List Nat × Box) := ((h.nodes path b).filter fun x => x.2.2.isFin).map fun x => (x.1, x.2.1)
def leafD (x : List Nat × Box) : D := .tup [nD x.1, Box.d x.2]
theorem Hr.leaves_fin {path : List Nat} {b : Box} : Hr.fin.leaves path b = [(path, b)] := by
  unfold Hr.leaves
  rw [Hr.nodes_fin]
  rfl
def subLeaves (p : Nat) (path : List Nat) (b : Box) (x : (List Nat × Hr) × Nat) : List (List Nat × Box) := x.1.2.leaves (path ++ [x.2]) (b.set p x.1.1)
theorem Hr.leaves_ask {p : Nat} {rows : List (List Nat × Hr)} {path : List Nat} {b : Box} : (Hr.ask p rows).leaves path b = (rows.zipIdx.map (subLeaves p path b)).flatten := by
  unfold Hr.leaves
  rw [Hr.nodes_ask, List.filter_cons_of_neg (by simp [Hr.isFin]), List.filter_flatten, List.map_flatten, List.map_map, List.map_map]
  rfl
theorem Hr.leaves_len {h : Hr} : ∀ {path : List Nat} {b : Box}, (h.leaves path b).length = h.many := by
  induction h using Hr.ind with
  | h0 => intro path b; rw [Hr.leaves_fin, Hr.many_fin]; rfl
  | h1 p rows ih =>
    intro path b
    rw [Hr.leaves_ask, Hr.many_ask, List.length_flatten, List.map_map]
    congr 1
    refine List.ext_getElem (by simp) fun i h1 h2 => ?_
    simp at h1 h2
    simp only [List.getElem_map, List.getElem_zipIdx, Function.comp_apply]
    exact ih _ (List.getElem_mem _)
/-! a row's way -/
inductive Way : Hr → Row → List (Nat × List Nat) → List Nat → Prop
  | fin {row : Row} : Way .fin row [] []
  | ask {p k : Nat} {rows : List (List Nat × Hr)} {row : Row} {r : List Nat × Hr} {a : List (Nat × List Nat)} {q : List Nat} : rows[k]? = some r → row.getD p 0 ∈ r.1 → Way r.2 row a q → Way (.ask p rows) row ((p, r.1) :: a) (k :: q)
theorem many_pos {h : Hr} : ∀ {b : Box}, HearOk b h → 1 ≤ h.many := by
  intro b hok
  have := nodes_many (path := []) hok
  have := nodes_pos (h := h) (path := []) (b := b)
  omega
theorem many_sub {p : Nat} {rows : List (List Nat × Hr)} {b : Box} (hok : HearOk b (.ask p rows)) {r : List Nat × Hr} (hr : r ∈ rows) : r.2.many < (Hr.ask p rows).many := by
  cases hok with
  | ask hp h2 _ _ hsub =>
    rw [Hr.many_ask]
    have key : ∀ rs : List (List Nat × Hr), (∀ x ∈ rs, x ∈ rows) → rs.length ≤ (rs.map fun x => x.2.many).sum ∧ ∀ x ∈ rs, x.2.many + rs.length ≤ (rs.map fun x => x.2.many).sum + 1 := by
      intro rs
      induction rs with
      | nil => intro _; simp
      | cons a rs ih =>
        intro hx
        obtain ⟨h3, h4⟩ := ih fun x hx2 => hx x (List.mem_cons_of_mem _ hx2)
        have h5 := many_pos (hsub a (hx a (List.mem_cons_self ..)))
        refine ⟨by simp; omega, fun x hxm => ?_⟩
        rcases List.mem_cons.mp hxm with rfl | hxm
        · simp; omega
        · have := h4 x hxm
          simp; omega
    have := (key rows fun _ h => h).2 r hr
    omega
def InBox (row : Row) (b : Box) : Prop := ∀ i, i < b.length → row.getD i 0 ∈ b.getD i []
theorem InBox.set {row : Row} {b : Box} {p : Nat} {q : List Nat} (h : InBox row b) (hq : row.getD p 0 ∈ q) : InBox row (b.set p q) := by
  intro i hi
  rw [List.length_set] at hi
  by_cases hip : i = p
  · subst hip
    simpa [List.getD_eq_getElem?_getD, hi] using hq
  · rw [getD_set_ne' hip]
    exact h i hi
structure RunS where
  path : List Nat
  ans : List (Nat × List Nat)
  node : Hr
  box : Box
  c5 : Option Cell
  c6 : Option Cell
end S

namespace S
open Z PySem PySem.Spec PyProof.Rows L2
def Hr.at : Hr → List Nat → Option Hr
  | h, [] => some h
  | .fin, _ :: _ => none
  | .ask _ rows, k :: q => match rows[k]? with
    | some r => r.2.at q
    | none => none
def Hr.part : Hr → List Nat → List Nat → Int
  | .ask p rows, k :: q, k' :: q' => if k = k' then (match rows[k]? with
    | some r => r.2.part q q'
    | none => -1) else (p : Int)
  | _, _, _ => -1
structure PartS where
  node : Hr
  q1 : List Nat
  q2 : List Nat
  c4 : Option Cell
end S

namespace S
open Z PySem PySem.Spec PyProof.Rows L2
structure LvOk (h : Hr) (nb : Nat) (lv : List (List Nat × Box)) : Prop where
  at_ : ∀ x ∈ lv, h.at x.1 = some .fin
  box : ∀ x ∈ lv, x.2.length = nb ∧ x.1.length ≤ 1000 ∧ ∀ q ∈ x.2, q.length ≤ 1000
  len : lv.length ≤ 1000
section
variable {h : Hr} {nb p kd : Nat} {lv : List (List Nat × Box)} {w : List Nat} {sl : Int} {l : List D} {vs : List Int} {c8 c9 c10 c11 c12 c13 c14 c15 c16 : Option Cell}
theorem getD_mem' {b : Box} {i : Nat} (hi : i < b.length) : b.getD i [] ∈ b := by simp [List.getElem?_eq_getElem hi]
end
end S

namespace S
open Z PySem PySem.Spec PyProof.Rows L2
section
variable {h : Hr} {lv : List (List Nat × Box)} {l : List D} {sizes : List Nat} {worths pay p : Nat} {sl : Int} {pds : List (List Int)} {w : List Nat}
  {c1 c2 c3 c4 c5 c6 c7 c8 c9 c10 c11 c12 c13 c14 c15 c16 c17 c18 c19 c20 c21 c22 c23 c24 c25 c26 : Option Cell}
def PaysOk (np : Nat) (pds : List (List Int)) : Prop := ∀ q ∈ pds, q.length = np ∧ ∀ i ∈ q, -1000 ≤ i ∧ i ≤ 1000
end
end S

namespace S
open Z PySem PySem.Spec PyProof.Rows L2
section
variable {h : Hr} {lv : List (List Nat × Box)} {l : List D} {sizes : List Nat} {worths pay p : Nat} {sl : Int} {pds : List (List Int)} {w : List Nat}
  {c1 c2 c3 c4 c5 c6 c7 c8 c9 c10 c11 c12 c13 c14 c15 c16 c17 c18 c19 c20 c21 c22 c23 c24 c25 c26 : Option Cell}
theorem asc_length : ∀ {w : List Nat} {a n : Nat}, w.Pairwise (· < ·) → (∀ x ∈ w, a ≤ x ∧ x < n) → w.length ≤ n - a
  | [], _, _, _, _ => by simp
  | x :: w, a, n, hp, h => by
    have hx := h x (List.mem_cons_self ..)
    have hp2 := List.pairwise_cons.mp hp
    have := asc_length (a := x + 1) (n := n) hp2.2 fun y hy => ⟨hp2.1 y hy, (h y (List.mem_cons_of_mem _ hy)).2⟩
    rw [List.length_cons]
    omega
structure HhOk (h : Hr) (nb : Nat) (lv : List (List Nat × Box)) (sl : Int) (pds : List (List Int)) : Prop where
  lvk : LvOk h nb lv
  s0 : 0 ≤ sl
  s3 : sl ≤ 3
  pd : pds.length = lv.length
  pok : PaysOk nb pds
  nb1 : nb ≤ 100
end
end S

namespace S
open Z PySem PySem.Spec PyProof.Rows L2
theorem ixOf_nD {q : List Nat} : ∀ {ps : List (List Nat)} {j : Nat}, q ∈ ps → ∃ i, i < ps.length ∧ ps[i]? = some q ∧ ixOf (nD q) j (ps.map nD) = some (j + i)
  | [], _, h => by simp at h
  | a :: r, j, h => by
    have e := eqv_pl 60 (nD a) (nD q) nD_pl nD_pl
    by_cases ha : a = q
    · subst ha
      refine ⟨0, by simp, rfl, ?_⟩
      rw [List.map_cons, ixOf, e]
      simp
    · have hq : q ∈ r := by
        rcases List.mem_cons.mp h with rfl | h
        · exact absurd rfl ha
        · exact h
      obtain ⟨i, h1, h2, h3⟩ := ixOf_nD (j := j + 1) hq
      refine ⟨i + 1, by simp; omega, by simpa using h2, ?_⟩
      have hne : ¬ nD a = nD q := fun z => ha (nD_inj.mp z)
      rw [List.map_cons, ixOf, e, decide_eq_false hne, if_neg (by simp), h3]
      congr 1
      omega
theorem f_indexL {q : List Nat} {ps : List (List Nat)} {k k' : Nat} (hm : q ∈ ps) : ∃ i, i < ps.length ∧ ps[i]? = some q ∧ fIndexL [⟨.lst (ps.map nD), k⟩, ⟨nD q, k'⟩] = .ok ⟨.int ((i : Nat) : Int), 0⟩ := by
  obtain ⟨i, h1, h2, h3⟩ := ixOf_nD (j := 0) hm
  refine ⟨i, h1, h2, ?_⟩
  have hq : (nD q).okd 60 = true := D.pl_okd _ _ nD_pl
  have hl : (D.lst (ps.map nD)).okd 60 = true := by
    rw [D.okd, List.all_eq_true]
    intro d hd
    obtain ⟨z, _, rfl⟩ := List.mem_map.mp hd
    exact D.pl_okd _ _ nD_pl
  unfold fIndexL
  simp only [hl, hq, Bool.and_true, if_true, h3, Nat.zero_add]
  rfl
section
variable {h : Hr} {lv : List (List Nat × Box)} {l : List D} {sizes : List Nat} {worths pay p : Nat} {sl : Int} {pds : List (List Int)} {w : List Nat}
  {c0 c1 c2 c3 c4 c5 c6 c7 c8 c9 c10 c11 c12 c13 c14 c15 c16 c17 c18 c19 c20 c21 c22 c23 c24 c25 c26 : Option Cell}
end
end S

namespace S
open Z PySem PySem.Spec PyProof.Rows L2
theorem row_in {b : Box} {r : Row} (h : r ∈ prodL b) : r.length = b.length ∧ InBox r b := by
  have hp := prodL_mem.mp h
  refine ⟨pr_len hp, fun i hi => ?_⟩
  have hl := pr_len hp
  have := pr_get hp (i := i) (a := r.getD i 0) (b := b.getD i []) (by simp [List.getElem?_eq_getElem (show i < r.length by omega)]) (by simp [List.getElem?_eq_getElem hi])
  exact this
end S

/-! S: boxes inside the whole one; ends and values of rows. -/
namespace S
open Z PySem PySem.Spec PyProof.Rows L2
/-- a box inside the whole one -/
structure BoxOf (b : Box) (sizes : List Nat) : Prop where
  len : b.length = sizes.length
  nd : ∀ q ∈ b, q.Nodup
  l8 : ∀ q ∈ b, q.length ≤ 8
  x8 : ∀ q ∈ b, ∀ x ∈ q, x < 8
theorem BoxOf.of {b : Box} {sizes : List Nat} (hs : SizesOk sizes) (h : BoxIn b (sizes.map List.range)) : BoxOf b sizes := by
  have key : ∀ q ∈ b, ∃ s ∈ sizes, q.Sublist (List.range s) := fun q hq => by
    obtain ⟨i, hi⟩ := List.mem_iff_getElem?.mp hq
    obtain ⟨hlt, _⟩ := List.getElem?_eq_some_iff.mp hi
    have hl := h.len
    rw [List.length_map] at hl
    have hsi : sizes[i]? = some (sizes[i]'(by omega)) := List.getElem?_eq_getElem (by omega)
    exact ⟨sizes[i]'(by omega), List.getElem_mem _, (h.sub i q (List.range (sizes[i]'(by omega))) hi (by simp [hsi])).1⟩
  refine ⟨by rw [h.len, List.length_map], fun q hq => ?_, fun q hq => ?_, fun q hq x hx => ?_⟩
  all_goals obtain ⟨s, hs2, hsub⟩ := key q hq
  · exact List.Nodup.sublist hsub List.nodup_range
  · have := hsub.length_le
    rw [List.length_range] at this
    have := (hs.s s hs2).2
    omega
  · have := List.mem_range.mp (hsub.subset hx)
    have := (hs.s s hs2).2
    omega
theorem BoxOf.ok {b : Box} {sizes : List Nat} (hs : SizesOk sizes) (h : BoxOf b sizes) : BoxOk b := ⟨by have := hs.n4; rw [h.len]; omega, h.l8⟩
theorem HouseOk.person {h : House} {sizes : List Nat} (ho : HouseOk h sizes) {p : Nat} (hp : p < sizes.length) : PrsnOk sizes.length h.told.length p (sizes.getD p 0) (h.persons.getD p default) :=
  ho.prs p _ (by rw [← ho.np] at hp; simp [List.getElem?_eq_getElem hp])
theorem HouseOk.worth {h : House} {sizes : List Nat} (ho : HouseOk h sizes) {p k : Nat} (hp : p < sizes.length) (hk : k < (h.kinds p).length) : KindOk h.told.length ((h.kinds p).getD k default) :=
  (ho.person hp).kind _ (by show (h.kinds p).getD k default ∈ h.kinds p; simp [List.getElem?_eq_getElem hk])
/-! the number of a row -/
def numL : Nat → List Nat → List Nat → Nat
  | a, s :: ss, x :: xs => numL (a * s + x) ss xs
  | a, _, _ => a
theorem numL_nil {a : Nat} {xs : List Nat} : numL a [] xs = a := by cases xs <;> rfl
theorem numL_lt : ∀ {ss xs : List Nat} {a A : Nat}, xs.length = ss.length → (∀ i, i < ss.length → xs.getD i 0 < ss.getD i 0) → a < A → numL a ss xs < A * rowsN ss
  | [], [], a, A, _, _, h => by simpa [numL, rowsN] using h
  | [], _ :: _, _, _, h, _, _ => by simp at h
  | _ :: _, [], _, _, h, _, _ => by simp at h
  | s :: ss, x :: xs, a, A, hl, hx, h => by
    have h0 := hx 0 (by simp)
    simp only [List.getD_cons_zero] at h0
    have := numL_lt (ss := ss) (xs := xs) (a := a * s + x) (A := A * s) (by simpa using hl) (fun i hi => by
      have := hx (i + 1) (by simp; omega)
      simpa using this) (by
        have : (a + 1) * s ≤ A * s := Nat.mul_le_mul_right s h
        rw [Nat.add_mul, Nat.one_mul] at this
        omega)
    rw [numL]
    have e : rowsN (s :: ss) = s * rowsN ss := rfl
    rw [e, ← Nat.mul_assoc]
    exact this
def House.endAt (h : House) (sizes : List Nat) (row : Row) : End := h.ends.getD (numL 0 sizes row) default
section
variable {h : House} {sizes : List Nat} {row : Row}
theorem endAt_ok (ho : HouseOk h sizes) (hr : row.length = sizes.length) (hx : ∀ i, i < sizes.length → row.getD i 0 < sizes.getD i 0) : EndOk sizes.length h.told.length (h.endAt sizes row) := by
  have hlt := numL_lt (a := 0) (A := 1) hr hx (by decide)
  rw [Nat.one_mul, ← ho.ne] at hlt
  exact ho.en _ (by simp [House.endAt, List.getElem?_eq_getElem hlt])
end
end S

namespace S
open Z PySem PySem.Spec PyProof.Rows L2
section
variable {h : House} {sizes : List Nat} {p k j : Nat}
structure RowOk (sizes : List Nat) (r : Row) : Prop where
  len : r.length = sizes.length
  lt : ∀ i, i < sizes.length → r.getD i 0 < sizes.getD i 0
structure PkOk (h : House) (sizes : List Nat) (p k j : Nat) : Prop where
  ho : HouseOk h sizes
  hs : SizesOk sizes
  p1 : p < sizes.length
  k1 : k < (h.kinds p).length
  j1 : j < (h.worths p k).length
theorem PkOk.row (o : PkOk h sizes p k j) : (h.row p k j).length = h.told.length ∧ ∀ i ∈ h.row p k j, Bd i := by
  have hw := (o.ho.worth o.p1 o.k1).row (h.row p k j)
  have hm : h.row p k j ∈ ((h.kinds p).getD k default).worths := by
    have := o.j1
    have hg : ∀ l : List (List Int), j < l.length → l.getD j [] ∈ l := fun l hl => by
      rw [List.getD_eq_getElem?_getD, List.getElem?_eq_getElem hl]
      exact List.getElem_mem _
    exact hg _ this
  exact hw hm
theorem PkOk.end_ (o : PkOk h sizes p k j) {r : Row} (hr : RowOk sizes r) : (h.endAt sizes r).out < (h.row p k j).length ∧ p < (h.endAt sizes r).pays.length := by
  have he := endAt_ok o.ho hr.len hr.lt
  have := he.out
  have := he.len
  have := o.p1
  rw [o.row.1]
  exact ⟨by omega, by omega⟩
end
end S

/-! ZS: more goal by goal. -/
namespace Z
open PySem PySem.Spec PyProof.Rows L2
def compO1 (it : ItD) (g : MG) (tt : MT) (me : AE) (vs : List Nat) (d : D) (ρ : Env) : R (List D × Env) := do
  let ρa ← g d [] ρ
  let (b, ρb) ← tt ρa
  if b then do
    let (s, ρc) ← me ρb
    if (freshL s).isSome && chkOk it (wipeE ρc vs) then R.ok ((freshL s).getD [], wipeE ρc vs) else R.bad
  else R.bad
@[simp] theorem freshL_v {l : List D} : freshL (.v ⟨.lst l, 1⟩) = some l := rfl
@[simp] theorem mAppIx_ap {i : Nat} {mi m : AE} {ρ : Env} : mAppIx i mi m ρ = (match ρ.get i with
  | some ⟨.lst _, 2⟩ => do
    let (si, ρ1) ← mi ρ
    match si.cell ρ1, ρ1.get i with
    | some ⟨.int j, _⟩, some ⟨.lst ls, 2⟩ =>
      match ixN ls.length j with
      | some q => match ls[q]? with
        | some (.lst l) => do
          let (s, ρ2) ← m (ρ1.set i none)
          let (c, ρ3) ← esc s ρ2
          if l.length < 16777216 then R.ok (.v (Cell.fz .non), ρ3.set i (some ⟨.lst (ls.set q (.lst (l ++ [c.d]))), 2⟩)) else R.bad
        | _ => R.bad
      | none => R.bad
    | _, _ => R.bad
  | _ => R.bad) := rfl
/-! ### junk that is frozen -/
def ownB : Option Cell → Bool
  | some c => decide (c.k = 0)
  | none => true
@[simp] theorem ownB_none : ownB none = true := rfl
@[simp] theorem ownB_some {d : D} {k : Nat} : ownB (some ⟨d, k⟩) = decide (k = 0) := rfl
theorem own_consB {ρ : Env} {i : Nat} {r : List Nat} : ownOk ρ (i :: r) = (ownB (ρ.get i) && ownOk ρ r) := by
  rw [own_cons]
  cases ρ.get i <;> rfl
section
variable {it : ItD} {g : MG} {body : MS} {L : List Nat} {ds : List D} {ρ : Env} {Q : Fl × Env → Prop} {α β σ : Type}
end
section
variable {α : Type}
@[simp] theorem f_allM {l : List α} {f : α → Bool} : fAll [⟨.lst (l.map fun x => D.bl (f x)), 1⟩] = .ok ⟨.bl (l.all f), 0⟩ := by
  have := f_allL (l := l.map f)
  rw [List.map_map] at this
  rw [show (l.map fun x => D.bl (f x)) = l.map (D.bl ∘ f) from rfl, this]
  simp [List.all_map]
@[simp] theorem f_anyM {l : List α} {f : α → Bool} : fAny [⟨.lst (l.map fun x => D.bl (f x)), 1⟩] = .ok ⟨.bl (l.any f), 0⟩ := by
  have := f_anyL (l := l.map f)
  rw [List.map_map] at this
  rw [show (l.map fun x => D.bl (f x)) = l.map (D.bl ∘ f) from rfl, this]
  simp [List.any_map]
end
@[simp] theorem mChain_s {f g : List Cell → R Cell} {a b c : AE} {ρ : Env} : mChain f g a b c ρ = (do
  let (s1, ρ1) ← a ρ
  let (s2, ρ2) ← b ρ1
  match s1.cell ρ2, s2.cell ρ2 with
  | some c1, some c2 => do
    let r ← f [c1, c2]
    match r with
    | ⟨.bl t, _⟩ => if t = true then (do
        let (s3, ρ3) ← c ρ2
        match s2.cell ρ3, s3.cell ρ3 with
        | some c2, some c3 => do
          let r ← g [c2, c3]
          R.ok (.v r, ρ3)
        | _, _ => R.bad) else R.ok (.v (Cell.fz (.bl false)), ρ2)
    | _ => R.bad
  | _, _ => R.bad) := by
  unfold mChain
  congr 1
  funext x
  obtain ⟨s1, ρ1⟩ := x
  dsimp only
  congr 1
  funext y
  obtain ⟨s2, ρ2⟩ := y
  dsimp only
  generalize Src.cell ρ2 s1 = x1
  generalize hx2 : Src.cell ρ2 s2 = x2
  cases x1 with
  | none => rfl
  | some c1 =>
    cases x2 with
    | none => rfl
    | some c2 =>
      dsimp only
      congr 1
      funext r
      obtain ⟨d, k⟩ := r
      cases d with
      | bl t => cases t <;> rfl
      | _ => rfl
@[simp] theorem Ret_addL {Q : Cell → Prop} {l m : List D} : Ret (fAdd [⟨.lst l, 1⟩, ⟨.lst m, 1⟩]) Q ↔ l.length + m.length ≤ 16777216 ∧ Q ⟨.lst (l ++ m), 1⟩ := by
  have : fAdd [⟨.lst l, 1⟩, ⟨.lst m, 1⟩] = if (1 : Nat) ≤ 1 ∧ (1 : Nat) ≤ 1 ∧ l.length + m.length ≤ 16777216 then .ok ⟨.lst (l ++ m), 1⟩ else .bad := rfl
  rw [this]
  simp
theorem rare_r {l : List D} {m : Int} {Q : Cell × List Cell → Prop} (h : DSl l) (h0 : 0 < m) (h1 : m < 4611686018427387904) (k : ∀ (b : Bool) (l' : List D), DSl l' → Q (⟨.bl b, 0⟩, [⟨.lst l', 1⟩, ⟨.int m, 0⟩])) : Ret (c_rare [⟨.lst l, 1⟩, ⟨.int m, 0⟩]) Q := by
  obtain ⟨b, c', e, hc⟩ := rare_ok h h0 h1
  obtain ⟨l', rfl⟩ := hc.k
  exact ⟨_, e, k b l' hc⟩
end Z

namespace S
open Z PySem PySem.Spec PyProof.Rows L2
/-! W1: houses read goal by goal; rows with one word; values of rows. -/
section
variable {h : House} {p k j : Nat}
@[simp] theorem len_boxD {b : Box} {k : Nat} : fLen [⟨Box.d b, k⟩] = .ok ⟨.int b.length, 0⟩ := by show R.ok (Cell.fz (.int (b.map nD).length)) = _; rw [List.length_map]; rfl
@[simp] theorem items_boxD {b : Box} : itemsOf (Box.d b) = some (b.map nD) := rfl
variable {sizes : List Nat}
theorem getD_of_lt {α : Type} [Inhabited α] {l : List α} {i : Nat} {d : α} (hi : i < l.length) : l.getD i d = l[i] := by
  simp [List.getD_eq_getElem?_getD, List.getElem?_eq_getElem hi]
theorem rows_le (hs : SizesOk sizes) : (rowsOf sizes).length ≤ 256 := by rw [rowsOf_len]; exact hs.rows
/-- the value of a row's end -/
def rv (h : House) (sizes : List Nat) (p k j : Nat) (r : Row) : Int := val (h.row p k j) p (h.endAt sizes r)
end
end S

namespace S
open Z PySem PySem.Spec PyProof.Rows L2
/-! W2: lies. -/
theorem getD_eq_set {r : List Nat} {p w : Nat} : ∀ {h : r.length > p}, (r.set p w).getD p 0 = w := by
  intro h
  simp [List.getD_eq_getElem?_getD, h]
theorem RowOk.set {sizes : List Nat} {r : Row} {p w : Nat} (h : RowOk sizes r) (hw : w < sizes.getD p 0) : RowOk sizes (r.set p w) := by
  refine ⟨by simpa using h.len, fun i hi => ?_⟩
  by_cases e : i = p
  · subst e
    rw [getD_eq_set (h := by have := h.len; omega)]
    exact hw
  · have : (r.set p w).getD i 0 = r.getD i 0 := by simp [List.getD_eq_getElem?_getD, List.getElem?_set, Ne.symm e]
    rw [this]
    exact h.lt i hi
section
variable {h : House} {sizes : List Nat} {p k j : Nat}
/-- another word is better by more than the slack -/
def liesB (h : House) (sizes : List Nat) (p k o j : Nat) (r : Row) : Bool := decide (h.slack < rv h sizes p k j (r.set p o) - rv h sizes p k j r)
abbrev Lie := Nat × Nat × Nat × Nat × Row
structure KOk (h : House) (sizes : List Nat) (p k : Nat) : Prop where
  ho : HouseOk h sizes
  hs : SizesOk sizes
  p1 : p < sizes.length
  k1 : k < sizes.getD p 0
end
end S

namespace S
open Z PySem PySem.Spec PyProof.Rows L2
/-! W3: open lies. -/
section
variable {h : House} {sizes : List Nat} {p k j : Nat}
end
end S

namespace S
open Z PySem PySem.Spec PyProof.Rows L2
/-! W4: what the law k82 reckons itself. -/
section
variable {h : House} {sizes : List Nat} {p k j : Nat}
end
end S

namespace S
open Z PySem PySem.Spec PyProof.Rows L2
/-! W5: lies and open lies, the plain law. -/
section
variable {h : House} {sizes : List Nat} {p k j o : Nat} {r : Row}
structure LieOk (h : House) (sizes : List Nat) (x : Lie) : Prop where
  p1 : x.1 < sizes.length
  k1 : x.2.1 < sizes.getD x.1 0
  o1 : x.2.2.1 < sizes.getD x.1 0
  ne : x.2.2.1 ≠ x.2.1
  j1 : x.2.2.2.1 < (h.worths x.1 x.2.1).length
  r1 : RowOk sizes x.2.2.2.2
  say : x.2.2.2.2.getD x.1 0 = x.2.1
  lies : liesB h sizes x.1 x.2.1 x.2.2.1 x.2.2.2.1 x.2.2.2.2 = true
end
end S

namespace S
open Z PySem PySem.Spec PyProof.Rows L2
/-! W6: the law's judges. -/
section
variable {h : House} {sizes : List Nat} {p k j o : Nat} {r : Row}
end
end S

namespace S
open Z PySem PySem.Spec PyProof.Rows L2
/-! W7: great houses. -/
section
variable {l : List D} {sizes : List Nat}
structure PsState where
  l : List D
  names : List Str
  ps : List Prsn
end
end S

namespace S
open Z PySem PySem.Spec PyProof.Rows L2
/-! W8: the law k82. -/
section
variable {l : List D} {h : House} {sizes : List Nat}
@[simp] theorem eq_rare : c__law_rare = c_rare := rfl
end
end S

namespace S
open Z PySem PySem.Spec PyProof.Rows L2
/-! W9: hearings walked by the program. -/
section
variable {b : Box} {h : Hr} {p : Nat} {rows : List (List Nat × Hr)} {path : List Nat}
def spare (b : Box) : Nat := (b.map fun q => q.length - 1).sum
theorem sum_set : ∀ {l : List Nat} {p x : Nat}, p < l.length → (l.set p x).sum + l.getD p 0 = l.sum + x
  | a :: l, 0, x, _ => by simp; omega
  | a :: l, p + 1, x, h => by
    have := sum_set (l := l) (p := p) (x := x) (by simpa using h)
    rw [List.set_cons_succ, List.sum_cons, List.sum_cons, List.getD_cons_succ]
    omega
theorem spare_set {q : List Nat} (hp : p < b.length) : spare (b.set p q) + ((b.getD p []).length - 1) = spare b + (q.length - 1) := by
  unfold spare
  rw [List.map_set]
  have := sum_set (l := b.map fun q => q.length - 1) (p := p) (x := q.length - 1) (by simpa using hp)
  have e : (b.map fun q => q.length - 1).getD p 0 = (b.getD p []).length - 1 := by
    simp [List.getD_eq_getElem?_getD, List.getElem?_eq_getElem hp]
  rw [e] at this
  exact this
theorem part_lt {ls : List (List Nat)} (h2 : 2 ≤ ls.length) (hn : ∀ q ∈ ls, q ≠ []) {q : List Nat} (hq : q ∈ ls) : q.length < ls.flatten.length := by
  have key : ∀ ls : List (List Nat), (∀ q ∈ ls, q ≠ []) → ls.length ≤ ls.flatten.length ∧ ∀ q ∈ ls, q.length + ls.length ≤ ls.flatten.length + 1 := by
    intro ls
    induction ls with
    | nil => intro _; simp
    | cons a r ih =>
      intro hn
      obtain ⟨i1, i2⟩ := ih fun q hq => hn q (List.mem_cons_of_mem _ hq)
      have ha := List.length_pos_iff.mpr (hn a (List.mem_cons_self ..))
      rw [List.flatten_cons, List.length_append, List.length_cons]
      refine ⟨by omega, fun q hq => ?_⟩
      rcases List.mem_cons.mp hq with rfl | hq
      · omega
      · have := i2 q hq
        omega
  have := (key ls hn).2 q hq
  omega
theorem HearOk.sub (hok : HearOk b (.ask p rows)) {r : List Nat × Hr} (hr : r ∈ rows) : HearOk (b.set p r.1) r.2 ∧ spare (b.set p r.1) < spare b ∧ r.1.Sublist (b.getD p []) ∧ r.1 ≠ [] := by
  cases hok with
  | ask hp h2 h3 h4 h5 =>
    refine ⟨h5 r hr, ?_, (h3 r hr).2, (h3 r hr).1⟩
    have h6 := part_lt (ls := rows.map (·.1)) (by simpa using h2) (fun q hq => by
      obtain ⟨r', hr', rfl⟩ := List.mem_map.mp hq
      exact (h3 r' hr').1) (List.mem_map_of_mem hr)
    rw [h4.length_eq] at h6
    have h7 := spare_set (q := r.1) hp
    have h8 := List.length_pos_iff.mpr (h3 r hr).1
    omega
theorem HearOk.p1 (hok : HearOk b (.ask p rows)) : p < b.length := by cases hok; assumption
theorem HearOk.rows_le (hok : HearOk b (.ask p rows)) : rows.length ≤ (Hr.ask p rows).many := by
  have key : ∀ rs : List (List Nat × Hr), (∀ x ∈ rs, x ∈ rows) → rs.length ≤ (rs.map fun x => x.2.many).sum := by
    intro rs
    induction rs with
    | nil => intro _; simp
    | cons a rs ih =>
      intro hx
      have h1 := ih fun x hx2 => hx x (List.mem_cons_of_mem _ hx2)
      have h2 := many_pos (hok.sub (hx a (List.mem_cons_self ..))).1
      simp
      omega
  rw [Hr.many_ask]
  exact key rows fun _ h => h
/-! reading a hearing -/
theorem Hr.fin_at0 {k k' : Nat} : fIx [⟨Hr.fin.d, k⟩, ⟨.int 0, k'⟩] = .ok ⟨.str "end", 0⟩ := by rw [Hr.d_fin]; exact ixT0
theorem Hr.ask_at0 {k k' : Nat} : fIx [⟨(Hr.ask p rows).d, k⟩, ⟨.int 0, k'⟩] = .ok ⟨.str "ask", 0⟩ := by rw [Hr.d_ask]; exact ixT0
theorem Hr.ask_at1 {k k' : Nat} : fIx [⟨(Hr.ask p rows).d, k⟩, ⟨.int 1, k'⟩] = .ok ⟨.int (p : Int), 0⟩ := by rw [Hr.d_ask]; exact ixT1
theorem Hr.ask_at2 {k k' : Nat} : fIx [⟨(Hr.ask p rows).d, k⟩, ⟨.int 2, k'⟩] = .ok ⟨.tup (rows.map rowD), 0⟩ := by rw [Hr.d_ask]; exact ixT2
theorem eq_ends {k k' : Nat} : fEq [⟨.str "end", k⟩, ⟨.str "end", k'⟩] = .ok ⟨.bl true, 0⟩ := f_eqS (by decide +kernel) (by decide +kernel)
theorem eq_askend {k k' : Nat} : fEq [⟨.str "ask", k⟩, ⟨.str "end", k'⟩] = .ok ⟨.bl false, 0⟩ := f_eqS (by decide +kernel) (by decide +kernel)
theorem eq_endask {k k' : Nat} : fEq [⟨.str "end", k⟩, ⟨.str "ask", k'⟩] = .ok ⟨.bl false, 0⟩ := f_eqS (by decide +kernel) (by decide +kernel)
theorem eq_asks {k k' : Nat} : fEq [⟨.str "ask", k⟩, ⟨.str "ask", k'⟩] = .ok ⟨.bl true, 0⟩ := f_eqS (by decide +kernel) (by decide +kernel)
theorem is_leaf_ok : c_is_leaf [⟨h.d, 0⟩] = .ok (⟨.bl h.isFin, 0⟩, [⟨h.d, 0⟩]) := by
  cases h with
  | fin =>
    have e0 := Hr.fin_at0 (k := 0) (k' := 0)
    generalize Hr.fin.d = hd at *
    simp (maxSteps := 2000000) -implicitDefEqProofs [-List.getD_eq_getElem?_getD, -own_cons, own_consB, ixT0, ixT1, ixT2, ixT3, ixT4, c_is_leaf, m_is_leaf, e0, eq_ends, Hr.isFin]
  | ask p rows =>
    have e0 := Hr.ask_at0 (p := p) (rows := rows) (k := 0) (k' := 0)
    generalize (Hr.ask p rows).d = hd at *
    simp (maxSteps := 2000000) -implicitDefEqProofs [-List.getD_eq_getElem?_getD, -own_cons, own_consB, ixT0, ixT1, ixT2, ixT3, ixT4, c_is_leaf, m_is_leaf, e0, eq_askend, Hr.isFin]
theorem narrowed_box {q : List Nat} (hp : p < b.length) (hl : b.length ≤ 1000) : c_narrowed [⟨Box.d b, 0⟩, ⟨.int (p : Int), 0⟩, ⟨nD q, 0⟩] = .ok (⟨Box.d (b.set p q), 0⟩, [⟨Box.d b, 0⟩, ⟨.int (p : Int), 0⟩, ⟨nD q, 0⟩]) := by
  have e := narrowed_ok (bs := b.map nD) (l := nL q) (p := p) (by simpa using hp) (by simpa using hl)
  have e2 : (b.map nD).set p (.tup (nL q)) = (b.set p q).map nD := by rw [List.map_set]; rfl
  rw [e2] at e
  exact e
theorem zip_range {α : Type} {g : (List Nat × Hr) × Nat → List α} : (rows.zipIdx.map g).flatten = (List.range rows.length).flatMap fun k => g (rows.getD k default, k) := by
  rw [List.flatMap_def]
  congr 1
  refine List.ext_getElem (by simp) fun i h1 h2 => ?_
  simp at h1
  simp only [List.getElem_map, List.getElem_zipIdx, List.getElem_range]
  rw [getD_of_lt h1]
  simp
def NodesFrom (f : FD) (n : Nat) : Prop := ∀ {b : Box} {h : Hr} {path : List Nat}, HearOk b h → spare b < n → b.length ≤ 1000 → path.length + n ≤ 5000 → h.many ≤ 1000 →
  f [⟨nD path, 0⟩, ⟨Box.d b, 0⟩, ⟨h.d, 0⟩] = .ok (⟨.lst ((h.nodes path b).map nodeD), 1⟩, [⟨nD path, 0⟩, ⟨Box.d b, 0⟩, ⟨h.d, 0⟩])
theorem nodes_from_step (f : FD) {n : Nat} (hf : NodesFrom f n) : NodesFrom (runDef 7 (m_nodes_from f)) (n + 1) := by
  intro b h path hok hsp hbl hpl hm
  refine Ret.eq ?_
  cases h with
  | fin =>
    have e0 := is_leaf_ok (h := .fin)
    rw [Hr.nodes_fin]
    rw [List.map_cons, List.map_nil, show nodeD (path, b, .fin) = .tup [nD path, Box.d b, Hr.fin.d] from rfl]
    generalize hhd : Hr.fin.d = hd at *
    simp (maxSteps := 2000000) -implicitDefEqProofs [-List.getD_eq_getElem?_getD, -own_cons, own_consB, ixT0, ixT1, ixT2, ixT3, ixT4, m_nodes_from, e0, Hr.isFin]
  | ask p rows =>
    have e0 := is_leaf_ok (h := .ask p rows)
    have e1 := Hr.ask_at1 (p := p) (rows := rows) (k := 0) (k' := 0)
    have e2 := Hr.ask_at2 (p := p) (rows := rows) (k := 0) (k' := 0)
    have hrl := hok.rows_le
    have hnm := nodes_many (path := path) hok
    have hnd := Hr.nodes_ask (p := p) (rows := rows) (path := path) (b := b)
    rw [zip_range] at hnd
    rw [hnd, List.map_cons]
    have e3 : nodeD (path, b, .ask p rows) = .tup [nD path, Box.d b, (Hr.ask p rows).d] := rfl
    rw [hnd, List.length_cons] at hnm
    have hsub := fun {r : List Nat × Hr} (hr : r ∈ rows) => hok.sub hr
    have hms := fun {r : List Nat × Hr} (hr : r ∈ rows) => many_sub hok hr
    have hp := hok.p1
    rw [e3]
    generalize hhd : (Hr.ask p rows).d = hd at *
    simp (maxSteps := 2000000) -implicitDefEqProofs [-List.getD_eq_getElem?_getD, -own_cons, own_consB, ixT0, ixT1, ixT2, ixT3, ixT4, m_nodes_from, e0, Hr.isFin, e2, rgD_nat']
    refine ⟨by omega, ?_⟩
    refine Ret_flat 5000 (List.range rows.length) (fun (i : Nat) => D.int (i : Int)) [4, 5, 6] (fun acc ρ => ρ.set 3 (some ⟨.lst (.tup [nD path, Box.d b, hd] :: acc.map nodeD), 1⟩)) (fun k => subNodes p path b (rows.getD k default, k)) [] rfl rfl (by simp only [List.length_nil]; omega) (fun k acc jj hk hacc => ?_) fun jj => ?_
    · have hk := List.mem_range.mp hk
      have hrk : rows.getD k default ∈ rows := by rw [getD_of_lt hk]; exact List.getElem_mem _
      obtain ⟨s1, s2, _, _⟩ := hsub hrk
      have hmk := hms hrk
      have en := narrowed_box (b := b) (p := p) (q := (rows.getD k default).1) hp hbl
      have ef := hf (path := path ++ [k]) s1 (by omega) (by simpa using hbl) (by simp; omega) (by omega)
      have er : rowD (rows.getD k default) = .tup [nD (rows.getD k default).1, (rows.getD k default).2.d] := rfl
      have ea : D.tup (nL path ++ [.int (k : Int)]) = nD (path ++ [k]) := by unfold nD; rw [← nL_snoc]
      have hsn : subNodes p path b (rows.getD k default, k) = (rows.getD k default).2.nodes (path ++ [k]) (b.set p (rows.getD k default).1) := rfl
      rw [hsn] at hacc ⊢
      generalize hr : rows.getD k default = r at *
      have eadd : fAdd [⟨nD path, 0⟩, ⟨.tup [.int (k : Int)], 0⟩] = .ok ⟨nD (path ++ [k]), 0⟩ := by
        have := f_addT (l := nL path) (m := [.int (k : Int)]) (k := 0) (k' := 0) (by rw [nL_len]; omega) (by simp)
        rw [ea] at this
        exact this
      simp (maxSteps := 2000000) -implicitDefEqProofs [-List.getD_eq_getElem?_getD, -own_cons, own_consB, ixT0, ixT1, ixT2, ixT3, ixT4, step1, b_nodes_from_1, e1, e2, hk, hr, er, en, eadd, ef]
      omega
    · simp (maxSteps := 2000000) -implicitDefEqProofs [-List.getD_eq_getElem?_getD, -own_cons, own_consB, ixT0, ixT1, ixT2, ixT3, ixT4]
theorem nodes_from_e : ∀ n : Nat, NodesFrom (c_nodes_from n) n
  | 0 => fun _ h => by omega
  | n + 1 => nodes_from_step _ (nodes_from_e n)
/-- a hearing of a small box -/
structure HrIn (b : Box) (h : Hr) : Prop where
  ok : HearOk b h
  b4 : b.length ≤ 4
  nd : ∀ q ∈ b, q.Nodup
  l8 : ∀ q ∈ b, q.length ≤ 8
  x8 : ∀ q ∈ b, ∀ x ∈ q, x < 8
  m : h.many ≤ 1000
theorem spare_le {k : Nat} (h : ∀ q ∈ b, q.length ≤ k + 1) : spare b ≤ b.length * k := by
  unfold spare
  induction b with
  | nil => simp
  | cons a r ih =>
    have h1 := h a (List.mem_cons_self ..)
    have h2 := ih fun q hq => h q (List.mem_cons_of_mem _ hq)
    rw [List.map_cons, List.sum_cons, List.length_cons, Nat.succ_mul]
    omega
theorem HrIn.sp (o : HrIn b h) : spare b ≤ 28 := by
  have := spare_le (b := b) (k := 7) o.l8
  have := o.b4
  have : b.length * 7 ≤ 4 * 7 := Nat.mul_le_mul_right _ o.b4
  omega
theorem HrIn.sub (o : HrIn b (.ask p rows)) {r : List Nat × Hr} (hr : r ∈ rows) : HrIn (b.set p r.1) r.2 := by
  obtain ⟨s1, s2, s3, s4⟩ := o.ok.sub hr
  have hm := many_sub o.ok hr
  have hp := o.ok.p1
  have hbp : b.getD p [] ∈ b := getD_mem' hp
  have hm2 := o.m
  refine ⟨s1, by simpa using o.b4, fun q hq => ?_, fun q hq => ?_, fun q hq => ?_, by omega⟩
  all_goals rcases List.mem_or_eq_of_mem_set hq with z | z
  · exact o.nd q z
  · rw [z]; exact s3.nodup (o.nd _ hbp)
  · exact o.l8 q z
  · rw [z]; exact Nat.le_trans s3.length_le (o.l8 _ hbp)
  · exact o.x8 q z
  · rw [z]; exact fun x hx => o.x8 _ hbp x (s3.subset hx)
theorem nodes_from_30 (o : HrIn b h) : c_nodes_from 30 [⟨.tup [], 0⟩, ⟨Box.d b, 0⟩, ⟨h.d, 0⟩] = .ok (⟨.lst ((h.nodes [] b).map nodeD), 1⟩, [⟨.tup [], 0⟩, ⟨Box.d b, 0⟩, ⟨h.d, 0⟩]) := by
  have h4 := o.b4
  have := nodes_from_e 30 (path := []) o.ok (by have := o.sp; omega) (by omega) (by simp) o.m
  exact this
theorem HrIn.nlen (o : HrIn b h) : (h.nodes [] b).length ≤ 2000 := by
  have := nodes_many (path := []) o.ok
  have := o.m
  omega
theorem leaves_of_ok (o : HrIn b h) : c_leaves_of [⟨Box.d b, 0⟩, ⟨h.d, 0⟩] = .ok (⟨.tup ((h.leaves [] b).map leafD), 0⟩, [⟨Box.d b, 0⟩, ⟨h.d, 0⟩]) := by
  have hl := o.nlen
  have e := nodes_from_30 o
  refine Ret.eq ?_
  generalize hhd : h.d = hd at *
  simp (maxSteps := 2000000) -implicitDefEqProofs [-List.getD_eq_getElem?_getD, -own_cons, own_consB, ixT0, ixT1, ixT2, ixT3, ixT4, c_leaves_of, m_leaves_of, e]
  refine ⟨by omega, ?_⟩
  refine Ret_compF (h.nodes [] b) nodeD (fun x => x.2.2.isFin) (fun x => leafD (x.1, x.2.1)) rfl (fun x hx => ?_) ?_
  · obtain ⟨path, bx, node⟩ := x
    have e2 := is_leaf_ok (h := node)
    cases q : node.isFin <;> rw [q] at e2 <;> simp (maxSteps := 2000000) -implicitDefEqProofs [-List.getD_eq_getElem?_getD, -own_cons, own_consB, ixT0, ixT1, ixT2, ixT3, ixT4, comp1, nodeD, leafD, t_leaves_of_1, e_leaves_of_2, e2, q]
  · simp (maxSteps := 2000000) -implicitDefEqProofs [-List.getD_eq_getElem?_getD, -own_cons, own_consB, ixT0, ixT1, ixT2, ixT3, ixT4, Hr.leaves, Function.comp_def]
def qD (x : List Nat × Nat × Box) : D := .tup [nD x.1, .int (x.2.1 : Int), Box.d x.2.2]
def Hr.per : Hr → Nat
  | .fin => 0
  | .ask p _ => p
def Hr.quests (h : Hr) (b : Box) : List (List Nat × Nat × Box) := ((h.nodes [] b).filter fun x => !x.2.2.isFin).map fun x => (x.1, x.2.2.per, x.2.1)
theorem Hr.at1 {k k' : Nat} (hf : h.isFin = false) : fIx [⟨h.d, k⟩, ⟨.int 1, k'⟩] = .ok ⟨.int (h.per : Int), 0⟩ := by
  cases h with
  | fin => cases hf
  | ask p rows => exact Hr.ask_at1
theorem questions_of_ok (o : HrIn b h) : c_questions_of [⟨Box.d b, 0⟩, ⟨h.d, 0⟩] = .ok (⟨.tup ((h.quests b).map qD), 0⟩, [⟨Box.d b, 0⟩, ⟨h.d, 0⟩]) := by
  have hl := o.nlen
  have e := nodes_from_30 o
  refine Ret.eq ?_
  generalize hhd : h.d = hd at *
  simp (maxSteps := 2000000) -implicitDefEqProofs [-List.getD_eq_getElem?_getD, -own_cons, own_consB, ixT0, ixT1, ixT2, ixT3, ixT4, c_questions_of, m_questions_of, e]
  refine ⟨by omega, ?_⟩
  refine Ret_compF (h.nodes [] b) nodeD (fun x => !x.2.2.isFin) (fun x => qD (x.1, x.2.2.per, x.2.1)) rfl (fun x hx => ?_) ?_
  · obtain ⟨path, bx, node⟩ := x
    have e2 := is_leaf_ok (h := node)
    cases q : node.isFin with
    | true => rw [q] at e2; simp (maxSteps := 2000000) -implicitDefEqProofs [-List.getD_eq_getElem?_getD, -own_cons, own_consB, ixT0, ixT1, ixT2, ixT3, ixT4, comp1, nodeD, qD, t_questions_of_1, e_questions_of_2, e2, q]
    | false => rw [q] at e2; simp (maxSteps := 2000000) -implicitDefEqProofs [-List.getD_eq_getElem?_getD, -own_cons, own_consB, ixT0, ixT1, ixT2, ixT3, ixT4, comp1, nodeD, qD, t_questions_of_1, e_questions_of_2, e2, q, Hr.at1 q]
  · simp (maxSteps := 2000000) -implicitDefEqProofs [-List.getD_eq_getElem?_getD, -own_cons, own_consB, ixT0, ixT1, ixT2, ixT3, ixT4, Hr.quests, Function.comp_def]
/-! one branch has the word -/
theorem HearOk.uniq (hok : HearOk b (.ask p rows)) (hn : (b.getD p []).Nodup) {i j : Nat} {r r' : List Nat × Hr} {w : Nat} (hi : rows[i]? = some r) (hj : rows[j]? = some r') (h1 : w ∈ r.1) (h2 : w ∈ r'.1) : i = j := by
  cases hok with
  | ask hp h2' h3 h4 h5 =>
    have hnf := h4.nodup_iff.mpr hn
    rw [List.Nodup, List.pairwise_flatten] at hnf
    have hpw := List.pairwise_iff_getElem.mp hnf.2
    obtain ⟨li, ei⟩ := List.getElem?_eq_some_iff.mp hi
    obtain ⟨lj, ej⟩ := List.getElem?_eq_some_iff.mp hj
    rcases Nat.lt_trichotomy i j with z | z | z
    · have := hpw i j (by simpa using li) (by simpa using lj) z
      simp only [List.getElem_map, ei, ej] at this
      exact absurd rfl (this w h1 w h2)
    · exact z
    · have := hpw j i (by simpa using lj) (by simpa using li) z
      simp only [List.getElem_map, ei, ej] at this
      exact absurd rfl (this w h2 w h1)
theorem Way.uniq {h : Hr} {row : Row} {a a' : List (Nat × List Nat)} {q q' : List Nat} (w : Way h row a q) : ∀ {b : Box}, HrIn b h → Way h row a' q' → a = a' ∧ q = q' := by
  induction w generalizing a' q' with
  | fin => intro b _ w'; cases w'; exact ⟨rfl, rfl⟩
  | ask h1 h2 _ ih =>
    intro b o w'
    cases w' with
    | ask h1' h2' w2 =>
      have := o.ok.uniq (o.nd _ (getD_mem' o.ok.p1)) h1 h1' h2 h2'
      subst this
      rw [h1] at h1'
      cases h1'
      obtain ⟨e1, e2⟩ := ih (o.sub (List.mem_of_getElem? h1)) w2
      rw [e1, e2]
      exact ⟨rfl, rfl⟩
end
end S

namespace S
open Z PySem PySem.Spec PyProof.Rows L2
/-! W10: runs, partings, boxes of paths. -/
section
variable {b : Box} {h : Hr} {row : Row}
end
end S

namespace S
open Z PySem PySem.Spec PyProof.Rows L2
/-! W11: drawn hearings. -/
section
variable {l : List D} {b : Box} {h : Hr} {p : Nat}
theorem cutD_toN {l : List D} (h : 1 ≤ l.length) : cutD l none (some (-1)) = l.take (l.length - 1) := by
  unfold Z.cutD
  have e : HT.sIx l.length l.length (some (-1)) = l.length - 1 := by
    show (if (-1 : Int) < 0 then ((-1 : Int) + (l.length : Int)).toNat else min (-1 : Int).toNat l.length) = _
    rw [if_pos (by decide)]
    omega
  rw [HT.sIx_none, e]
  simp
/-! chains -/
abbrev Link := Nat × List Nat × List Nat × Bool
def linkB (x : Link) (b : Box) : Box := b.set x.1 (if x.2.2.2 then x.2.2.1 else x.2.1)
def LinkOk (x : Link) (b : Box) : Prop := x.1 < b.length ∧ x.2.1 ≠ [] ∧ x.2.2.1 ≠ [] ∧ x.2.1 ++ x.2.2.1 = b.getD x.1 []
inductive Chain : Box → List Link → Box → Prop
  | nil {b : Box} : Chain b [] b
  | cons {b c : Box} {x : Link} {xs : List Link} : LinkOk x b → Chain (linkB x b) xs c → Chain b (x :: xs) c
theorem Chain.snoc {b c : Box} {x : Link} {xs : List Link} (h : Chain b xs c) (hx : LinkOk x c) : Chain b (xs ++ [x]) (linkB x c) := by
  induction h with
  | nil => exact .cons hx .nil
  | cons h1 _ ih => exact .cons h1 (ih hx)
theorem Chain.len {b c : Box} {xs : List Link} (h : Chain b xs c) : c.length = b.length := by
  induction h with
  | nil => rfl
  | cons _ _ ih => rw [ih]; simp [linkB]
def able (b : Box) : List Nat := (List.range b.length).filter fun p => decide (1 < (b.getD p []).length)
theorem pick_nL {ks : List Nat} (h : DSl l) (h0 : ks ≠ []) (h1 : ks.length ≤ 1000) {k : Nat} (hk : k ≤ 1) {Q : Cell × List Cell → Prop} (kk : ∀ (x : Nat) (l' : List D), x ∈ ks → DSl l' → Q (⟨.int (x : Int), 0⟩, [⟨.lst l', 1⟩, ⟨.lst (nL ks), k⟩])) : Ret (c_pick [⟨.lst l, 1⟩, ⟨.lst (nL ks), k⟩]) Q := by
  have hpos := List.length_pos_iff.mpr h0
  have e := pickL_s (row := nL ks) (k := k) hk h (by simpa using hpos) (by simp; omega)
  have hlt := dN_ltN (l := l) (m := (nL ks).length) h (by simpa using hpos) (by simp; omega)
  have hg : (nL ks).getD (dN l (nL ks).length) .non = .int ((ks.getD (dN l (nL ks).length) 0 : Nat) : Int) := by
    rw [getD_of_lt hlt, getD_of_lt (by simpa using hlt)]
    simp [nL]
  rw [hg] at e
  refine ⟨_, e, kk _ _ ?_ h.d⟩
  rw [getD_of_lt (by simpa using hlt)]
  exact List.getElem_mem _
end
end S

namespace S
open Z PySem PySem.Spec PyProof.Rows L2
/-! W12: the finest hearings; how many leaves; right hearings. -/
section
variable {l : List D} {b : Box} {h : Hr} {p : Nat}
def prodN (b : Box) : Nat := (b.map List.length).foldr (· * ·) 1
theorem prodN_set : ∀ {b : Box} {p : Nat} {q : List Nat}, p < b.length → prodN (b.set p q) * (b.getD p []).length = prodN b * q.length
  | a :: b, 0, q, _ => by
    show q.length * prodN b * a.length = a.length * prodN b * q.length
    rw [Nat.mul_right_comm, Nat.mul_comm q.length a.length, Nat.mul_right_comm]
  | a :: b, p + 1, q, h => by
    have ih := prodN_set (b := b) (p := p) (q := q) (by simpa using h)
    show a.length * prodN (b.set p q) * ((a :: b).getD (p + 1) []).length = a.length * prodN b * q.length
    rw [List.getD_cons_succ, Nat.mul_assoc, ih, Nat.mul_assoc]
theorem prodN_len {b : Box} : (prodL b).length = prodN b := prodL_length b
theorem prodN_pos (hn : ∀ q ∈ b, q ≠ []) : 1 ≤ prodN b := by
  unfold prodN
  induction b with
  | nil => simp
  | cons a r ih =>
    have h1 := List.length_pos_iff.mpr (hn a (List.mem_cons_self ..))
    have h2 := ih fun q hq => hn q (List.mem_cons_of_mem _ hq)
    rw [List.map_cons, List.foldr_cons]
    exact Nat.mul_pos h1 h2
theorem many_le : ∀ {h : Hr} {b : Box}, HearOk b h → (∀ q ∈ b, q ≠ []) → h.many ≤ prodN b := by
  intro h
  induction h using Hr.ind with
  | h0 => intro b _ hn; rw [Hr.many_fin]; exact prodN_pos hn
  | h1 p rows ih =>
    intro b hok hn
    have hp := hok.p1
    rw [Hr.many_ask]
    have hpos := List.length_pos_iff.mpr (hn _ (getD_mem' hp))
    have hfl : (rows.map fun r => r.1.length).sum = (b.getD p []).length := by
      cases hok with
      | ask _ _ _ h4 _ =>
        rw [← h4.length_eq, List.length_flatten, List.map_map]
        rfl
    have key : ∀ rs : List (List Nat × Hr), (∀ r ∈ rs, r ∈ rows) → (rs.map fun r => r.2.many).sum * (b.getD p []).length ≤ prodN b * (rs.map fun r => r.1.length).sum := by
      intro rs
      induction rs with
      | nil => intro _; simp
      | cons r rs ih2 =>
        intro hrs
        have h1 := ih2 fun x hx => hrs x (List.mem_cons_of_mem _ hx)
        obtain ⟨s1, _, s3, s4⟩ := hok.sub (hrs r (List.mem_cons_self ..))
        have h2 := ih r (hrs r (List.mem_cons_self ..)) s1 fun q hq => by
          rcases List.mem_or_eq_of_mem_set hq with z | z
          · exact hn q z
          · rw [z]; exact s4
        have h3 := prodN_set (q := r.1) hp
        rw [List.map_cons, List.sum_cons, List.map_cons, List.sum_cons, Nat.add_mul, Nat.mul_add]
        have h4 : r.2.many * (b.getD p []).length ≤ prodN (b.set p r.1) * (b.getD p []).length := Nat.mul_le_mul_right _ h2
        omega
    have := key rows fun _ h => h
    rw [hfl] at this
    exact Nat.le_of_mul_le_mul_right this hpos
end
end S

namespace S
open Z PySem PySem.Spec PyProof.Rows L2
/-! W13: what the law k32 reckons itself. -/
section
variable {l : List D} {b : Box} {h : Hr} {p : Nat} {row other : Row}
theorem node_in : ∀ {h : Hr} {b : Box} {pre : List Nat}, HrIn b h → ∀ x ∈ h.nodes pre b, ∃ z, x.1 = pre ++ z ∧ z.length + spare x.2.1 ≤ spare b ∧ (∀ y ∈ z, y ≤ 1000) ∧ HrIn x.2.1 x.2.2 ∧ x.2.1.length = b.length := by
  intro h
  induction h using Hr.ind with
  | h0 =>
    intro b pre o x hx
    rw [Hr.nodes_fin, List.mem_singleton] at hx
    subst hx
    exact ⟨[], by simp, by simp, by simp, o, rfl⟩
  | h1 p rows ih =>
    intro b pre o x hx
    rw [Hr.nodes_ask, List.mem_cons] at hx
    rcases hx with rfl | hx
    · exact ⟨[], by simp, by simp, by simp, o, rfl⟩
    · rw [List.mem_flatten] at hx
      obtain ⟨l, hl, hq⟩ := hx
      obtain ⟨⟨r, k⟩, hk, rfl⟩ := List.mem_map.mp hl
      have hk2 := List.mem_zipIdx_iff_getElem?.mp hk
      simp only at hk2
      have hr := List.mem_of_getElem? hk2
      obtain ⟨z, e1, e2, e3, e4, e5⟩ := ih r hr (o.sub hr) x hq
      have hs := (o.ok.sub hr).2.1
      have hrl := o.ok.rows_le
      have hm := o.m
      have hkl := (List.getElem?_eq_some_iff.mp hk2).1
      refine ⟨k :: z, by rw [e1]; simp, by simp; omega, fun y hy => ?_, e4, by rw [e5]; simp⟩
      rcases List.mem_cons.mp hy with rfl | hy
      · omega
      · exact e3 y hy
theorem nD_okd {ks : List Nat} {n : Nat} : (nD ks).okd (n + 1) = true := D.pl_okd _ _ nD_pl
theorem node_small (o : HrIn b h) {x : List Nat × Box × Hr} (hx : x ∈ h.nodes [] b) : x.1.length ≤ 28 ∧ (∀ y ∈ x.1, y ≤ 1000) ∧ HrIn x.2.1 x.2.2 ∧ x.2.1.length = b.length := by
  obtain ⟨z, e1, e2, e3, e4, e5⟩ := node_in o x hx
  rw [List.nil_append] at e1
  subst e1
  have := o.sp
  exact ⟨by omega, e3, e4, e5⟩
end
end S

namespace S
open Z PySem PySem.Spec PyProof.Rows L2
/-! W14: runs and partings, told by the law k32. -/
section
variable {l : List D} {b : Box} {h : Hr} {p : Nat} {row other : Row}
theorem pick_nT {ks : List Nat} (h : DSl l) (h0 : ks ≠ []) (h1 : ks.length ≤ 1000) {Q : Cell × List Cell → Prop} (kk : ∀ (x : Nat) (l' : List D), x ∈ ks → DSl l' → Q (⟨.int (x : Int), 0⟩, [⟨.lst l', 1⟩, ⟨nD ks, 0⟩])) : Ret (c_pick [⟨.lst l, 1⟩, ⟨nD ks, 0⟩]) Q := by
  have hpos := List.length_pos_iff.mpr h0
  have e := pickT_s (row := nL ks) h (by simpa using hpos) (by simp; omega)
  have hlt := dN_ltN (l := l) (m := (nL ks).length) h (by simpa using hpos) (by simp; omega)
  have hg : (nL ks).getD (dN l (nL ks).length) .non = .int ((ks.getD (dN l (nL ks).length) 0 : Nat) : Int) := by
    rw [getD_of_lt hlt, getD_of_lt (by simpa using hlt)]
    simp [nL]
  rw [hg] at e
  refine ⟨_, e, kk _ _ ?_ h.d⟩
  rw [getD_of_lt (by simpa using hlt)]
  exact List.getElem_mem _
end
end S

namespace S
open Z PySem PySem.Spec PyProof.Rows L2
/-! W15: another box, in which persons that are never asked have other kinds. -/
section
variable {l : List D} {b w : Box} {h : Hr} {p : Nat} {row other : Row}
end
end S

namespace S
open Z PySem PySem.Spec PyProof.Rows L2
/-! W16: boxes inside the whole one; hearings in another box. -/
section
variable {l : List D} {b w every : Box} {h : Hr} {p : Nat} {row other : Row} {sizes : List Nat}
structure GoodB (b : Box) : Prop where
  b1 : 0 < b.length
  b4 : b.length ≤ 4
  nd : ∀ q ∈ b, q.Nodup
  l8 : ∀ q ∈ b, q.length ≤ 8
  x8 : ∀ q ∈ b, ∀ x ∈ q, x < 8
  ne : ∀ q ∈ b, q ≠ []
  N : prodN b ≤ 256
theorem prodN_mono : ∀ {b w : Box}, b.length = w.length → (∀ (i : Nat) (q z : List Nat), b[i]? = some q → w[i]? = some z → q.length ≤ z.length) → prodN b ≤ prodN w
  | [], [], _, _ => Nat.le_refl _
  | [], _ :: _, h, _ => by simp at h
  | _ :: _, [], h, _ => by simp at h
  | q :: b, z :: w, h, hl => by
    have h1 := hl 0 q z rfl rfl
    have h2 := prodN_mono (b := b) (w := w) (by simpa using h) fun i q z e1 e2 => hl (i + 1) q z (by simpa using e1) (by simpa using e2)
    exact Nat.mul_le_mul h1 h2
theorem BoxIn.good (hs : SizesOk sizes) (h : BoxIn b (sizes.map List.range)) : GoodB b := by
  have ho := BoxOf.of hs h
  have h1 := hs.n1
  have h4 := hs.n4
  refine ⟨by rw [ho.len]; omega, by rw [ho.len]; omega, ho.nd, ho.l8, ho.x8, fun q hq => ?_, ?_⟩
  · obtain ⟨i, hi⟩ := List.mem_iff_getElem?.mp hq
    obtain ⟨hlt, _⟩ := List.getElem?_eq_some_iff.mp hi
    have hl := h.len
    exact (h.sub i q _ hi (List.getElem?_eq_getElem (by omega))).2
  · have e := prodN_mono h.len fun i q z e1 e2 => (h.sub i q z e1 e2).1.length_le
    have e2 : prodN (sizes.map List.range) = rowsN sizes := by
      unfold prodN rowsN
      rw [List.map_map]
      congr 1
      exact (List.map_congr_left fun x _ => List.length_range).trans (List.map_id _)
    have := hs.rows
    omega
theorem GoodB.hr (g : GoodB b) (hk : HearOk b h) : HrIn b h ∧ h.many ≤ 256 := by
  have := many_le hk g.ne
  have := g.N
  exact ⟨⟨hk, g.b4, g.nd, g.l8, g.x8, by omega⟩, by omega⟩
theorem pick_map {α : Type} [Inhabited α] {xs : List α} {f : α → D} {k : Nat} (hk : k ≤ 1) (h : DSl l) (h0 : 0 < xs.length) (h1 : xs.length ≤ 5000) {Q : Cell × List Cell → Prop} (kk : ∀ (x : α) (l' : List D), x ∈ xs → DSl l' → Q (⟨f x, 0⟩, [⟨.lst l', 1⟩, ⟨.lst (xs.map f), k⟩])) : Ret (c_pick [⟨.lst l, 1⟩, ⟨.lst (xs.map f), k⟩]) Q := by
  have e := pickL_s (row := xs.map f) (k := k) hk h (by simpa using h0) (by simp; omega)
  have hlt := dN_ltN (l := l) (m := (xs.map f).length) h (by simpa using h0) (by simp; omega)
  have hg : (xs.map f).getD (dN l (xs.map f).length) .non = f (xs.getD (dN l (xs.map f).length) default) := by
    rw [getD_of_lt hlt, getD_of_lt (by simpa using hlt)]
    simp
  rw [hg] at e
  refine ⟨_, e, kk _ _ ?_ h.d⟩
  rw [getD_of_lt (by simpa using hlt)]
  exact List.getElem_mem _
end
end S

namespace S
open Z PySem PySem.Spec PyProof.Rows L2
/-! W17: the law k81: a table of values for each worth row, and the gaps of lies. -/
section
variable {l : List D} {h : House} {sizes : List Nat} {p k j o : Nat}
end
end S

namespace S
open Z PySem PySem.Spec PyProof.Rows L2
/-! W18: the law k81's first lie, its changed house. -/
section
variable {l : List D} {h : House} {sizes : List Nat} {p k j o : Nat}
end
end S

namespace S
open Z PySem PySem.Spec PyProof.Rows L2
/-! W19: forecasts: the ends of a box. -/
section
variable {l : List D} {h : House} {sizes : List Nat} {b : Box} {p k j o : Nat}
structure BK (h : House) (sizes : List Nat) (b : Box) : Prop where
  ho : HouseOk h sizes
  hs : SizesOk sizes
  hb : BoxIn b (sizes.map List.range)
theorem BK.len (q : BK h sizes b) : b.length = sizes.length := by rw [q.hb.len, List.length_map]
theorem BK.good (q : BK h sizes b) : GoodB b := BoxIn.good q.hs q.hb
theorem BK.bok (q : BK h sizes b) : BoxOk b := ⟨by have := q.good.b4; omega, q.good.l8⟩
theorem BK.kind (q : BK h sizes b) {p x : Nat} (hp : p < sizes.length) (hx : x ∈ b.getD p []) : x < sizes.getD p 0 := by
  have hl := q.len
  have e1 : b[p]? = some (b.getD p []) := by rw [getD_of_lt (by omega)]; exact List.getElem?_eq_getElem _
  have e2 : (sizes.map List.range)[p]? = some (List.range (sizes.getD p 0)) := by simp [List.getElem?_eq_getElem hp, List.getD_eq_getElem?_getD]
  exact List.mem_range.mp ((q.hb.sub p _ _ e1 e2).1.subset hx)
theorem BK.row (q : BK h sizes b) {r : Row} (hr : r ∈ prodL b) : RowOk sizes r := by
  obtain ⟨h1, h2⟩ := row_in hr
  have hl := q.len
  exact ⟨by omega, fun i hi => q.kind hi (h2 i (by omega))⟩
theorem BK.rows_le (q : BK h sizes b) : (prodL b).length ≤ 256 ∧ 1 ≤ (prodL b).length := by
  have e : (prodL b).length = prodN b := prodN_len
  have h1 := q.good.N
  have h2 := prodN_pos q.good.ne
  omega
end
end S

namespace S
open Z PySem PySem.Spec PyProof.Rows L2
/-! W20: spans of payments and values; which persons matter. -/
section
variable {l : List D} {h : House} {sizes : List Nat} {b : Box} {p k j o : Nat}
theorem BK.set (q : BK h sizes b) (hp : p < b.length) {ks : List Nat} (hk : ks ≠ []) (hs : ks.Sublist (b.getD p [])) : BK h sizes (b.set p ks) := by
  refine ⟨q.ho, q.hs, by simpa using q.hb.len, fun i x z h1 h2 => ?_⟩
  rw [List.getElem?_set] at h1
  by_cases e : p = i
  · subst e
    rw [if_pos rfl, if_pos hp] at h1
    cases h1
    have e1 : b[p]? = some (b.getD p []) := by rw [getD_of_lt hp]; exact List.getElem?_eq_getElem _
    exact ⟨hs.trans (q.hb.sub p _ _ e1 h2).1, hk⟩
  · rw [if_neg e] at h1
    exact q.hb.sub i x z h1 h2
theorem BK.nd (q : BK h sizes b) : (b.getD p []).Nodup := by
  by_cases hp : p < b.length
  · exact q.good.nd _ (by rw [getD_of_lt hp]; exact List.getElem_mem _)
  · simp [List.getD_eq_getElem?_getD, List.getElem?_eq_none (Nat.le_of_not_lt hp)]
end
end S

namespace S
open Z PySem PySem.Spec PyProof.Rows L2
/-! W21: which persons matter. -/
section
variable {l : List D} {h : House} {sizes : List Nat} {b : Box} {p k j o : Nat}
end
end S

namespace S
open Z PySem PySem.Spec PyProof.Rows L2
/-! W22: the law's own matters, by a table of words. -/
section
variable {l : List D} {h : House} {sizes : List Nat} {b : Box} {p k j o : Nat}
/-- the row without the person's word -/
def wordsR (p : Nat) (r : Row) : List Nat := r.take p ++ r.drop (p + 1)
structure MetOk (h : House) (sizes : List Nat) (p : Nat) (done : List Row) (xs : List (List Nat × End)) : Prop where
  a : ∀ r ∈ done, (wordsR p r, h.endAt sizes r) ∈ xs
  c : ∀ x ∈ xs, ∃ r ∈ done, x = (wordsR p r, h.endAt sizes r)
  u : ∀ r ∈ done, ∀ r' ∈ done, wordsR p r = wordsR p r' → h.endAt sizes r = h.endAt sizes r'
  n : xs.length ≤ done.length
end
end S

namespace S
open Z PySem PySem.Spec PyProof.Rows L2
/-! W23: a box is told. -/
section
variable {l : List D} {h : House} {sizes : List Nat} {b : Box} {p k j o : Nat}
end
end S

namespace S
open Z PySem PySem.Spec PyProof.Rows L2
/-! W24: the law k34's judgement of a box. -/
section
variable {l : List D} {h : House} {sizes : List Nat} {b : Box} {p k j o : Nat}
end
end S

namespace S
open Z PySem PySem.Spec PyProof.Rows L2
/-! W25: the ends of k34, drawn. -/
section
variable {l : List D} {h : House} {sizes : List Nat} {b : Box} {p k j o : Nat}
end
end S

namespace S
open Z PySem PySem.Spec PyProof.Rows L2
/-! W26: the ends of k34. -/
section
variable {l : List D} {h : House} {sizes : List Nat} {b : Box} {p k j o : Nat}
end
end S

namespace S
open Z PySem PySem.Spec PyProof.Rows L2
structure CP where
  name : Str
  up : Bool
  worths : List Int
structure Clk where
  persons : List CP
  told : List (List Nat)
def upS : Str := "up"
def downS : Str := "down"
instance : Inhabited CP := ⟨⟨upS, false, []⟩⟩
def CP.side (q : CP) : Str := if q.up then upS else downS
def CP.d (q : CP) : D := .tup [.str q.name, .str q.side, iD q.worths]
def Clk.d (c : Clk) : D := .tup [.str "clocks", .tup (c.persons.map CP.d), .tup (c.told.map nD)]
def Clk.up (c : Clk) (p : Nat) : Bool := (c.persons.getD p default).up
structure Win (n : Nat) (w : List Nat) : Prop where
  asc : w.Pairwise (· < ·)
  lt : ∀ x ∈ w, x < n
theorem Win.len {n : Nat} {w : List Nat} (h : Win n w) : w.length ≤ n := asc_length (a := 0) h.asc fun x hx => ⟨Nat.zero_le _, h.lt x hx⟩
structure ClkOk (c : Clk) (sizes : List Nat) : Prop where
  win : ∀ w ∈ c.told, Win sizes.length w
  sz : c.persons.map (fun q => q.worths.length) = sizes
  told : c.told.length = rowsN sizes
def Clk.win (c : Clk) (sizes : List Nat) (r : Row) : List Nat := c.told.getD (numL 0 sizes r) default
section
variable {c : Clk} {sizes : List Nat} {p : Nat} {row : Row} {b : Box}
theorem Clk.at1 {k k' : Nat} : fIx [⟨c.d, k⟩, ⟨.int 1, k'⟩] = .ok ⟨.tup (c.persons.map CP.d), 0⟩ := ixT (i := 1) rfl
theorem Clk.at2 {k k' : Nat} : fIx [⟨c.d, k⟩, ⟨.int 2, k'⟩] = .ok ⟨.tup (c.told.map nD), 0⟩ := ixT (i := 2) rfl
theorem CP.at1 {q : CP} {k k' : Nat} : fIx [⟨q.d, k⟩, ⟨.int 1, k'⟩] = .ok ⟨.str q.side, 0⟩ := ixT (i := 1) rfl
theorem CP.at2 {q : CP} {k k' : Nat} : fIx [⟨q.d, k⟩, ⟨.int 2, k'⟩] = .ok ⟨iD q.worths, 0⟩ := ixT (i := 2) rfl
theorem ClkOk.np (h : ClkOk c sizes) : c.persons.length = sizes.length := by rw [← h.sz, List.length_map]
theorem ClkOk.size (h : ClkOk c sizes) (hp : p < sizes.length) : (c.persons.getD p default).worths.length = sizes.getD p 0 := by
  have e := h.np
  rw [getD_of_lt (by omega), getD_of_lt hp]
  have : sizes[p] = (c.persons.map fun q => q.worths.length)[p]'(by rw [List.length_map]; omega) := by simp only [h.sz]
  rw [this, List.getElem_map]
theorem lenI {l : List Int} {k : Nat} : fLen [⟨iD l, k⟩] = .ok ⟨.int (l.length : Nat), 0⟩ := by
  have : fLen [⟨.tup (l.map D.int), k⟩] = .ok ⟨.int ((l.map D.int).length : Nat), 0⟩ := by simp
  rw [List.length_map] at this
  exact this
theorem lenN {l : List Nat} {k : Nat} : fLen [⟨nD l, k⟩] = .ok ⟨.int (l.length : Nat), 0⟩ := by
  have : fLen [⟨.tup (l.map fun (i : Nat) => D.int (i : Int)), k⟩] = .ok ⟨.int ((l.map fun (i : Nat) => D.int (i : Int)).length : Nat), 0⟩ := by simp
  rw [List.length_map] at this
  exact this
theorem worths_of86_ok (hp : p < c.persons.length) : c_worths_of_k86 [⟨c.d, 0⟩, ⟨.int (p : Int), 0⟩] = .ok (⟨iD (c.persons.getD p default).worths, 0⟩, [⟨c.d, 0⟩, ⟨.int (p : Int), 0⟩]) := by
  refine Ret.eq ?_
  simp (maxSteps := 2000000) -implicitDefEqProofs [-List.getD_eq_getElem?_getD, -own_cons, own_consB, ixT0, ixT1, ixT2, ixT3, ixT4, c_worths_of_k86, m_worths_of_k86, Clk.at1, CP.at2, hp]
theorem person_count_ok : c_person_count [⟨c.d, 0⟩] = .ok (⟨.int (c.persons.length : Nat), 0⟩, [⟨c.d, 0⟩]) := by
  refine Ret.eq ?_
  simp (maxSteps := 2000000) -implicitDefEqProofs [-List.getD_eq_getElem?_getD, -own_cons, own_consB, ixT0, ixT1, ixT2, ixT3, ixT4, c_person_count, m_person_count, Clk.at1]
theorem numL_step {a i : Nat} (hi : i < sizes.length) (hr : row.length = sizes.length) : numL a (sizes.drop i) (row.drop i) = numL (a * sizes.getD i 0 + row.getD i 0) (sizes.drop (i + 1)) (row.drop (i + 1)) := by
  rw [List.drop_eq_getElem_cons hi, List.drop_eq_getElem_cons (show i < row.length by omega), numL]
  simp [List.getElem?_eq_getElem hi, List.getElem?_eq_getElem (show i < row.length by omega)]
theorem table_place_ok (ho : ClkOk c sizes) (hs : SizesOk sizes) (hr : row.length = sizes.length) : c_table_place [⟨c.d, 0⟩, ⟨nD row, 0⟩] = .ok (⟨.int ((numL 0 sizes row : Nat) : Int), 0⟩, [⟨c.d, 0⟩, ⟨nD row, 0⟩]) := by
  have h4 := hs.n4
  have hnp := ho.np
  refine Ret.eq ?_
  simp (maxSteps := 2000000) -implicitDefEqProofs [-List.getD_eq_getElem?_getD, -own_cons, own_consB, ixT0, ixT1, ixT2, ixT3, ixT4, c_table_place, m_table_place, person_count_ok, rgD_nat', hnp]
  refine ⟨by omega, ?_⟩
  refine Ret_range sizes.length [3] (fun (s : Nat) ρ => ρ.set 2 (some ⟨.int (s : Int), 0⟩)) (fun i s => numL s (sizes.drop i) (row.drop i) = numL 0 sizes row) 0 rfl rfl (by simp) (fun i s j hi hI => ?_) fun s j hI => ?_
  · have hsz := hs.s (sizes.getD i 0) (by rw [getD_of_lt hi]; exact List.getElem_mem _)
    have e1 := worths_of86_ok (c := c) (p := i) (by omega)
    have e2 := ho.size hi
    have em : cmul (s : Int) ((sizes.getD i 0 : Nat) : Int) = true := cmul_of (.inr ⟨by omega, by omega⟩)
    rw [numL_step hi hr] at hI
    generalize sizes.getD i 0 = x at *
    simp (maxSteps := 2000000) -implicitDefEqProofs [-List.getD_eq_getElem?_getD, -own_cons, own_consB, ixT0, ixT1, ixT2, ixT3, ixT4, step1, b_table_place_1, e1, lenI, e2, em, hr, hi]
    exact ⟨s * x + row.getD i 0, by simp, hI⟩
  · rw [List.drop_of_length_le (Nat.le_refl _), numL_nil] at hI
    subst hI
    simp (maxSteps := 2000000) -implicitDefEqProofs [-List.getD_eq_getElem?_getD, -own_cons, own_consB, ixT0, ixT1, ixT2, ixT3, ixT4]
theorem place_lt (ho : ClkOk c sizes) (hr : RowOk sizes row) : numL 0 sizes row < c.told.length := by
  have := numL_lt (a := 0) (A := 1) hr.len hr.lt (by decide)
  rw [ho.told]
  omega
theorem winners_at_ok (ho : ClkOk c sizes) (hs : SizesOk sizes) (hr : RowOk sizes row) : c_winners_at [⟨c.d, 0⟩, ⟨nD row, 0⟩] = .ok (⟨nD (c.win sizes row), 0⟩, [⟨c.d, 0⟩, ⟨nD row, 0⟩]) := by
  have hl := place_lt ho hr
  refine Ret.eq ?_
  simp (maxSteps := 2000000) -implicitDefEqProofs [-List.getD_eq_getElem?_getD, -own_cons, own_consB, ixT0, ixT1, ixT2, ixT3, ixT4, c_winners_at, m_winners_at, Clk.at2, table_place_ok ho hs hr.len, hl, Clk.win]
end
end S

namespace S
open Z PySem PySem.Spec PyProof.Rows L2
structure CB (c : Clk) (sizes : List Nat) (b : Box) : Prop where
  ho : ClkOk c sizes
  hs : SizesOk sizes
  hb : BoxIn b (sizes.map List.range)
def Clk.first (c : Clk) (sizes : List Nat) (b : Box) : List Nat := c.win sizes ((prodL b).getD 0 default)
def Clk.outK (c : Clk) (b : Box) (p : Nat) : Nat := if c.up p then (b.getD p []).getD 0 0 else (b.getD p []).getD ((b.getD p []).length - 1) 0
def Clk.shows (c : Clk) (sizes : List Nat) (b : Box) (p : Nat) (r : Row) : Bool := decide (r.getD p 0 = c.outK b p) && (decide (p ∈ c.win sizes r) == c.up p)
def Clk.parts (c : Clk) (b : Box) (p : Nat) : List Nat × List Nat := if c.up p then ((b.getD p []).take 1, (b.getD p []).drop 1) else ((b.getD p []).take ((b.getD p []).length - 1), (b.getD p []).drop ((b.getD p []).length - 1))
def Clk.quest (c : Clk) (sizes : List Nat) (b : Box) (p : Nat) : Option (List Nat × List Nat) := if (b.getD p []).length < 2 then none else if (prodL b).any (c.shows sizes b p) then none else some (c.parts b p)
section
variable {c : Clk} {sizes : List Nat} {p : Nat} {r : Row} {b : Box}
theorem CB.len (q : CB c sizes b) : b.length = sizes.length := by rw [q.hb.len, List.length_map]
theorem CB.good (q : CB c sizes b) : GoodB b := BoxIn.good q.hs q.hb
theorem CB.bok (q : CB c sizes b) : BoxOk b := ⟨by have := q.good.b4; omega, q.good.l8⟩
theorem kind_in (hs : SizesOk sizes) (hb : BoxIn b (sizes.map List.range)) {p x : Nat} (hp : p < sizes.length) (hx : x ∈ b.getD p []) : x < sizes.getD p 0 := by
  have hl : b.length = sizes.length := by rw [hb.len, List.length_map]
  have e1 : b[p]? = some (b.getD p []) := by rw [getD_of_lt (by omega)]; exact List.getElem?_eq_getElem _
  have e2 : (sizes.map List.range)[p]? = some (List.range (sizes.getD p 0)) := by simp [List.getElem?_eq_getElem hp, List.getD_eq_getElem?_getD]
  exact List.mem_range.mp ((hb.sub p _ _ e1 e2).1.subset hx)
theorem CB.row (q : CB c sizes b) {r : Row} (hr : r ∈ prodL b) : RowOk sizes r := by
  obtain ⟨h1, h2⟩ := row_in hr
  have hl := q.len
  exact ⟨by omega, fun i hi => kind_in q.hs q.hb hi (h2 i (by omega))⟩
theorem CB.rows_le (q : CB c sizes b) : (prodL b).length ≤ 256 ∧ 1 ≤ (prodL b).length := by
  have e : (prodL b).length = prodN b := prodN_len
  have h1 := q.good.N
  have h2 := prodN_pos q.good.ne
  omega
theorem CB.win (q : CB c sizes b) (hr : r ∈ prodL b) : c_winners_at [⟨c.d, 0⟩, ⟨nD r, 0⟩] = .ok (⟨nD (c.win sizes r), 0⟩, [⟨c.d, 0⟩, ⟨nD r, 0⟩]) := winners_at_ok q.ho q.hs (q.row hr)
theorem CB.rows (q : CB c sizes b) : c_rows_of [⟨Box.d b, 0⟩] = .ok (⟨.tup ((prodL b).map nD), 0⟩, [⟨Box.d b, 0⟩]) := rows_of_box q.bok
theorem CB.part (q : CB c sizes b) (hp : p < b.length) : 0 < (b.getD p []).length ∧ (b.getD p []).length ≤ 8 := by
  have hm : b.getD p [] ∈ b := by rw [getD_of_lt hp]; exact List.getElem_mem _
  have := q.good.ne _ hm
  have := q.good.l8 _ hm
  have : (b.getD p []).length ≠ 0 := fun e => q.good.ne _ hm (List.length_eq_zero_iff.mp e)
  omega
theorem find_ite {α : Type} {l : List α} {f : α → Bool} {g : α → Cell} : (l.findSome? fun r => if f r = true then some (g r) else none) = (l.find? f).map g := by
  induction l with
  | nil => rfl
  | cons x l ih =>
    rw [List.findSome?_cons, List.find?_cons]
    cases f x <;> simp [ih]
end
end S

namespace S
open Z PySem PySem.Spec PyProof.Rows L2
@[simp] theorem isi_tup_non {k : Nat} : fIsi "tuple" [⟨.non, k⟩] = .ok ⟨.bl false, 0⟩ := by unfold fIsi; simp [isT]
@[simp] theorem isi_tup_int {i : Int} {k : Nat} : fIsi "tuple" [⟨.int i, k⟩] = .ok ⟨.bl false, 0⟩ := by unfold fIsi; simp [isT]
@[simp] theorem isi_tup_str {x : Str} {k : Nat} : fIsi "tuple" [⟨.str x, k⟩] = .ok ⟨.bl false, 0⟩ := by unfold fIsi; simp [isT]
@[simp] theorem isi_str_non {k : Nat} : fIsi "str" [⟨.non, k⟩] = .ok ⟨.bl false, 0⟩ := by unfold fIsi; simp [isT]
@[simp] theorem isi_str_int {i : Int} {k : Nat} : fIsi "str" [⟨.int i, k⟩] = .ok ⟨.bl false, 0⟩ := by unfold fIsi; simp [isT]
section
variable {c : Clk} {sizes : List Nat} {p : Nat} {r : Row} {b : Box}
end
end S

namespace S
open Z PySem PySem.Spec PyProof.Rows L2
section
variable {c : Clk} {sizes : List Nat} {p : Nat} {r : Row} {b : Box} {l : List D}
end
end S

namespace S
open Z PySem PySem.Spec PyProof.Rows L2
/-! W31: draws of clock tables: some persons, the persons, the shape of a clock hearing. -/
section
variable {c : Clk} {sizes : List Nat} {p : Nat} {r : Row} {b : Box} {l : List D}
theorem dput_inv {K V : D → Prop} {ks ds : List D} {q v : D} (hl : ks.length = ds.length) (hk : ∀ x ∈ ks, K x) (hv : ∀ d ∈ ds, V d) (hq : K q) (hvv : V v) :
    (dPutK ks q).length = (dPutV ks ds q v).length ∧ (∀ x ∈ dPutK ks q, K x) ∧ (∀ d ∈ dPutV ks ds q v, V d) ∧ q ∈ dPutK ks q ∧ (∀ x ∈ ks, x ∈ dPutK ks q) ∧ (dPutK ks q).length ≤ ks.length + 1 := by
  unfold dPutK dPutV
  by_cases h : q ∈ ks
  · rw [if_pos h, if_pos h]
    refine ⟨by rw [List.length_zipWith]; omega, hk, fun d hd => ?_, h, fun _ h => h, by omega⟩
    obtain ⟨i, hi, e⟩ := List.mem_iff_getElem.mp hd
    rw [List.getElem_zipWith] at e
    split at e
    · subst e; exact hvv
    · subst e; exact hv _ (List.getElem_mem _)
  · rw [if_neg h, if_neg h]
    refine ⟨by simp [hl], fun x hx => ?_, fun d hd => ?_, by simp, fun x hx => List.mem_append_left _ hx, by simp⟩
    · rcases List.mem_append.mp hx with hx | hx
      · exact hk x hx
      · rw [List.mem_singleton.mp hx]; exact hq
    · rcases List.mem_append.mp hd with hx | hx
      · exact hv d hx
      · rw [List.mem_singleton.mp hx]; exact hvv
@[simp] theorem truth_int {i : Int} : truth (.int i) = some (i != 0) := rfl
end
end S

namespace S
open Z PySem PySem.Spec PyProof.Rows L2
/-! W32: the shape of a clock hearing. -/
def cut2 (u : Bool) (ks : List Nat) : List Nat × List Nat := if u then (ks.take 1, ks.drop 1) else (ks.take (ks.length - 1), ks.drop (ks.length - 1))
theorem cut2_ok {u : Bool} {ks : List Nat} (h : 2 ≤ ks.length) : (cut2 u ks).1 ≠ [] ∧ (cut2 u ks).2 ≠ [] ∧ (cut2 u ks).1 ++ (cut2 u ks).2 = ks ∧ (cut2 u ks).1.length < ks.length ∧ (cut2 u ks).2.length < ks.length := by
  unfold cut2
  split
  · refine ⟨fun e => ?_, fun e => ?_, List.take_append_drop .., ?_, ?_⟩
    · have := congrArg List.length e; rw [List.length_take, List.length_nil] at this; omega
    · have := congrArg List.length e; rw [List.length_drop, List.length_nil] at this; omega
    · simp; omega
    · simp; omega
  · refine ⟨fun e => ?_, fun e => ?_, List.take_append_drop .., ?_, ?_⟩
    · have := congrArg List.length e; rw [List.length_take, List.length_nil] at this; omega
    · have := congrArg List.length e; rw [List.length_drop, List.length_nil] at this; omega
    · simp; omega
    · simp; omega
inductive ClkH (up : Nat → Bool) : Box → Hr → Prop
  | fin {b : Box} : ClkH up b .fin
  | ask {b : Box} {p : Nat} {h1 h2 : Hr} : p < b.length → 2 ≤ (b.getD p []).length → ClkH up (b.set p (cut2 (up p) (b.getD p [])).1) h1 → ClkH up (b.set p (cut2 (up p) (b.getD p [])).2) h2 → ClkH up b (.ask p [((cut2 (up p) (b.getD p [])).1, h1), ((cut2 (up p) (b.getD p [])).2, h2)])
section
variable {c : Clk} {sizes : List Nat} {p : Nat} {r : Row} {b : Box} {l : List D}
end
end S

namespace S
open Z PySem PySem.Spec PyProof.Rows L2
/-! W33: winners of leaves, built and scattered tables. -/
theorem at_ask {h : Hr} {x : Nat} {q : List Nat} {n : Hr} (e : h.at (x :: q) = some n) : ∃ p rows r, h = .ask p rows ∧ rows[x]? = some r ∧ r.2.at q = some n := by
  cases h with
  | fin => simp [Hr.at] at e
  | ask p rows =>
    cases hr : rows[x]? with
    | none => simp [Hr.at, hr] at e
    | some r => exact ⟨p, rows, r, rfl, hr, by simpa [Hr.at, hr] using e⟩
structure DInv (K V : D → Prop) (n : Nat) (ks ds : List D) : Prop where
  len : ks.length = ds.length
  k : ∀ x ∈ ks, K x
  v : ∀ d ∈ ds, V d
  n : ks.length ≤ n
theorem DInv.put {K V : D → Prop} {n : Nat} {ks ds : List D} {q v : D} (h : DInv K V n ks ds) (hq : K q) (hv : V v) : DInv K V (n + 1) (dPutK ks q) (dPutV ks ds q v) := by
  obtain ⟨h1, h2, h3, _, _, h6⟩ := dput_inv h.len h.k h.v hq hv
  exact ⟨h1, h2, h3, by have := h.n; omega⟩
theorem DInv.mono {K V : D → Prop} {n m : Nat} {ks ds : List D} (h : DInv K V n ks ds) (hm : n ≤ m) : DInv K V m ks ds := ⟨h.len, h.k, h.v, by have := h.n; omega⟩
section
variable {c : Clk} {sizes : List Nat} {p : Nat} {r : Row} {b : Box} {l : List D}
end
end S

namespace S
open Z PySem PySem.Spec PyProof.Rows L2
section
variable {c : Clk} {sizes : List Nat} {p : Nat} {r : Row} {b : Box} {l : List D}
theorem wholeGood (hs : SizesOk sizes) : GoodB (sizes.map List.range) := BoxIn.good hs (BoxIn.self fun z hz => by
  obtain ⟨s, hm, rfl⟩ := List.mem_map.mp hz
  have := hs.s s hm
  exact fun e => by have := congrArg List.length e; simp at this; omega)
end
end S

namespace S
open Z PySem PySem.Spec PyProof.Rows L2
/-! W35: tables that are changed; the sizes. -/
section
variable {c : Clk} {sizes : List Nat} {p : Nat} {r : Row} {b : Box} {l : List D}
theorem lenB {b : Box} {k : Nat} : fLen [⟨Box.d b, k⟩] = .ok ⟨.int (b.length : Nat), 0⟩ := by
  have : fLen [⟨.tup (b.map nD), k⟩] = .ok ⟨.int ((b.map nD).length : Nat), 0⟩ := by simp
  rw [List.length_map] at this
  exact this
end
end S

namespace S
open Z PySem PySem.Spec PyProof.Rows L2
/-! W36: still boxes and clock questions. -/
section
variable {c : Clk} {sizes : List Nat} {p : Nat} {r : Row} {b S : Box} {x y : List Nat}
theorem sub_getD (h : BoxIn S b) (hp : p < b.length) : (S.getD p []).Sublist (b.getD p []) ∧ S.getD p [] ≠ [] := by
  have hl := h.len
  have e1 : S[p]? = some (S.getD p []) := by rw [getD_of_lt (by omega)]; exact List.getElem?_eq_getElem _
  have e2 : b[p]? = some (b.getD p []) := by rw [getD_of_lt hp]; exact List.getElem?_eq_getElem _
  exact h.sub p _ _ e1 e2
theorem boxIn_of (hl : S.length = b.length) (h : ∀ i, i < b.length → (S.getD i []).Sublist (b.getD i []) ∧ S.getD i [] ≠ []) : BoxIn S b := by
  refine ⟨hl, fun i q z h1 h2 => ?_⟩
  have hi := (List.getElem?_eq_some_iff.mp h2).1
  have := h i hi
  rw [List.getD_eq_getElem?_getD, List.getD_eq_getElem?_getD, h1, h2] at this
  exact this
theorem getD_set_eq {b : Box} {q : List Nat} (hp : p < b.length) : (b.set p q).getD p [] = q := by
  simp [List.getD_eq_getElem?_getD, List.getElem?_set, hp]
theorem getD_set_ne {b : Box} {q : List Nat} {i : Nat} (h : p ≠ i) : (b.set p q).getD i [] = b.getD i [] := by
  simp [List.getD_eq_getElem?_getD, List.getElem?_set, h]
theorem quest_some (h : c.quest sizes b p = some (x, y)) : 2 ≤ (b.getD p []).length ∧ (prodL b).any (c.shows sizes b p) = false ∧ (x, y) = cut2 (c.up p) (b.getD p []) := by
  unfold Clk.quest at h
  split at h
  · cases h
  split at h
  · cases h
  · rename_i h1 h2
    injection h with h
    refine ⟨by omega, by simpa using h2, ?_⟩
    rw [← h]
    unfold Clk.parts cut2
    rfl
theorem quest_parts (h : c.quest sizes b p = some (x, y)) : x ≠ [] ∧ y ≠ [] ∧ x ++ y = b.getD p [] ∧ x.length < (b.getD p []).length ∧ y.length < (b.getD p []).length := by
  obtain ⟨h1, _, h3⟩ := quest_some h
  have := cut2_ok (u := c.up p) h1
  rw [← h3] at this
  exact this
theorem set_in {w : Box} (hb : BoxIn b w) (hq : c.quest sizes b p = some (x, y)) (hp : p < b.length) : BoxIn (b.set p x) w ∧ BoxIn (b.set p y) w := by
  obtain ⟨h1, h2, hc, _, _⟩ := quest_parts hq
  have hl := hb.len
  have hs := (sub_getD (p := p) hb (by omega)).1
  refine ⟨boxIn_of (by rw [List.length_set]; exact hl) fun i hi => ?_, boxIn_of (by rw [List.length_set]; exact hl) fun i hi => ?_⟩
  all_goals
    by_cases e : p = i
    · subst e
      rw [getD_set_eq hp]
      first
        | exact ⟨(by rw [← hc] at hs; exact (List.sublist_append_left x y).trans hs), h1⟩
        | exact ⟨(by rw [← hc] at hs; exact (List.sublist_append_right x y).trans hs), h2⟩
    · rw [getD_set_ne e]
      exact sub_getD hb hi
end
end S

namespace S
open Z PySem PySem.Spec PyProof.Rows L2
section
variable {c : Clk} {sizes : List Nat} {p : Nat} {r : Row} {b S : Box} {x y : List Nat}
theorem CB.sub (q : CB c sizes b) (hq : c.quest sizes b p = some (x, y)) (hp : p < b.length) : CB c sizes (b.set p x) ∧ CB c sizes (b.set p y) :=
  ⟨⟨q.ho, q.hs, (set_in q.hb hq hp).1⟩, ⟨q.ho, q.hs, (set_in q.hb hq hp).2⟩⟩
theorem CB.pos (q : CB c sizes b) : 1 ≤ prodN b := prodN_pos q.good.ne
end
end S

namespace S
open Z PySem PySem.Spec PyProof.Rows L2
/-! W38: the program: settling_hearing, still_paper, decide_clocks, is_clock_hearing. -/
section
variable {c : Clk} {sizes : List Nat} {p : Nat} {r : Row} {b S : Box} {x y : List Nat}
end
end S

namespace S
open Z PySem PySem.Spec PyProof.Rows L2
section
variable {c : Clk} {sizes : List Nat} {p : Nat} {r : Row} {b S : Box} {x y : List Nat} {h : Hr} {rows : List (List Nat × Hr)}
theorem pl_up {d : D} {n m : Nat} (h : d.pl n = true) (hm : n ≤ m) : d.pl m = true := by
  induction m with
  | zero => rwa [show n = 0 by omega] at h
  | succ m ih =>
    by_cases e : n = m + 1
    · rwa [e] at h
    · exact pl_mono m d (ih (by omega))
def pairD (z : Box × Hr) : D := .tup [Box.d z.1, z.2.d]
theorem flat_len {rows : List (List Nat × Hr)} (h : ∀ r ∈ rows, r.1 ≠ []) : rows.length ≤ (rows.map (·.1)).flatten.length := by
  induction rows with
  | nil => simp
  | cons a rows ih =>
    have h1 := List.length_pos_iff.mpr (h a (List.mem_cons_self ..))
    have h2 := ih fun r hr => h r (List.mem_cons_of_mem _ hr)
    rw [List.map_cons, List.flatten_cons, List.length_append, List.length_cons]
    omega
end
end S

namespace S
open Z PySem PySem.Spec PyProof.Rows L2
end S

namespace S
open Z PySem PySem.Spec PyProof.Rows L2
theorem nkL_nats {l : List Nat} : D.nkL (nL l) = l.map fun (i : Nat) => NestedKey.num (i : Int) := by
  unfold nL
  induction l with
  | nil => rfl
  | cons a l ih => simp only [List.map_cons, D.nkL, D.nk, ih]
section
variable {c : Clk} {sizes : List Nat} {p : Nat} {r : Row} {b S : Box} {x y : List Nat}
def both (p : Nat) (x y : List Nat) (a b : Option Hr) : Option Hr := match a, b with
  | some h1, some h2 => some (.ask p [(x, h1), (y, h2)])
  | _, _ => none
end
end S

namespace S
open Z PySem PySem.Spec PyProof.Rows L2
section
variable {c : Clk} {sizes : List Nat} {p : Nat} {r : Row} {b S : Box} {x y : List Nat}
end
end S

namespace S
open Z PySem PySem.Spec PyProof.Rows L2
/-! W43: the law's is_within, is_row, takes_still. -/
section
variable {c : Clk} {sizes : List Nat} {p : Nat} {r : Row} {b S : Box} {x y : List Nat}
structure Asc (S : Box) : Prop where
  ne : ∀ q ∈ S, q ≠ []
  asc : ∀ q ∈ S, q.Pairwise (· < ·)
  l : ∀ q ∈ S, q.length ≤ 1000
end
end S

namespace S
open Z PySem PySem.Spec PyProof.Rows L2
/-! W44: takes_still, drawn clock hearings, decides. -/
section
variable {c : Clk} {sizes : List Nat} {p : Nat} {r r0 : Row} {b S : Box} {x y : List Nat} {l : List D}
/-- a hearing of clock questions -/
inductive CQ (c : Clk) (sizes : List Nat) : Box → Hr → Prop
  | fin {b : Box} : CQ c sizes b .fin
  | ask {b : Box} {p : Nat} {x y : List Nat} {h1 h2 : Hr} : p < b.length → c.quest sizes b p = some (x, y) → CQ c sizes (b.set p x) h1 → CQ c sizes (b.set p y) h2 → CQ c sizes b (.ask p [(x, h1), (y, h2)])
end
end S

namespace S
open Z PySem PySem.Spec PyProof.Rows L2
/-! W45: _law_same by the count of things; drawn clock hearings; decides. -/
mutual
def cnD : D → Nat
  | .tup l => cnL l + 1
  | .non => 1
  | .bl _ => 1
  | .int _ => 1
  | .str _ => 1
  | .lst _ => 1
  | .scr _ => 1
  | .dct _ _ => 1
def cnL : List D → Nat
  | [] => 0
  | d :: r => cnD d + cnL r
end
theorem cnD_pos {d : D} : 1 ≤ cnD d := by cases d <;> simp [cnD]
theorem cnL_append {a b : List D} : cnL (a ++ b) = cnL a + cnL b := by
  induction a with
  | nil => rw [List.nil_append, show cnL [] = 0 from rfl, Nat.zero_add]
  | cons x a ih => rw [List.cons_append, cnL, cnL, ih, Nat.add_assoc]
theorem len_cnL {a : List D} : a.length ≤ cnL a := by
  induction a with
  | nil => exact Nat.zero_le _
  | cons x a ih =>
    have := cnD_pos (d := x)
    rw [cnL, List.length_cons]
    omega
section
variable {c : Clk} {sizes : List Nat} {p : Nat} {r : Row} {b : Box} {l : List D} {x y : List Nat}
theorem cn_nD {ks : List Nat} : cnD (nD ks) = ks.length + 1 := by
  have : cnL (nL ks) = ks.length := by
    unfold nL
    induction ks with
    | nil => rfl
    | cons a ks ih => rw [List.map_cons, cnL, ih, List.length_cons]; simp [cnD]; omega
  show cnL (nL ks) + 1 = _
  rw [this]
theorem CQ.cn {h : Hr} (k : CQ c sizes b h) : (∀ q ∈ b, q.length ≤ 8) → cnD h.d + 30 ≤ 60 * h.many := by
  induction k with
  | fin =>
    intro _
    rw [Hr.d_fin, Hr.many_fin]
    decide
  | @ask b p x y h1 h2 hp hq k1 k2 i1 i2 =>
    intro h8
    obtain ⟨c1, c2, c3, _, _⟩ := quest_parts hq
    have hbp : b.getD p [] ∈ b := by rw [getD_of_lt hp]; exact List.getElem_mem _
    have hl : x.length + y.length ≤ 8 := by
      rw [← List.length_append, c3]
      exact h8 _ hbp
    have j1 := i1 fun q hq => (List.mem_or_eq_of_mem_set hq).elim (h8 q) fun e => by rw [e]; omega
    have j2 := i2 fun q hq => (List.mem_or_eq_of_mem_set hq).elim (h8 q) fun e => by rw [e]; omega
    rw [Hr.d_ask, Hr.many_ask]
    simp only [List.map_cons, List.map_nil, List.sum_cons, List.sum_nil, rowD, cnD, cnL, cn_nD]
    have e1 : cnD (nD x) = x.length + 1 := cn_nD
    have e2 : cnD (nD y) = y.length + 1 := cn_nD
    omega
theorem CQ.pl {h : Hr} (k : CQ c sizes b h) : ∃ n, h.d.pl n = true := by
  induction k with
  | fin => exact ⟨1, by rw [Hr.d_fin]; decide +kernel⟩
  | @ask b p x y h1 h2 hp hq k1 k2 i1 i2 =>
    obtain ⟨n1, e1⟩ := i1
    obtain ⟨n2, e2⟩ := i2
    refine ⟨max n1 n2 + 4, ?_⟩
    rw [Hr.d_ask]
    have f1 : h1.d.pl (max n1 n2 + 1) = true := pl_up e1 (by omega)
    have f2 : h2.d.pl (max n1 n2 + 1) = true := pl_up e2 (by omega)
    have g1 : (nD x).pl (max n1 n2 + 1) = true := nD_pl
    have g2 : (nD y).pl (max n1 n2 + 1) = true := nD_pl
    have ha : (D.str "ask").pl (max n1 n2 + 3) = true := pl_up (n := 0) (by decide +kernel) (by omega)
    show ((D.str "ask").pl (max n1 n2 + 3) && ((D.int (p : Int)).pl (max n1 n2 + 3) && ((D.tup [rowD (x, h1), rowD (y, h2)]).pl (max n1 n2 + 3) && true))) = true
    have h3 : (D.tup [rowD (x, h1), rowD (y, h2)]).pl (max n1 n2 + 3) = true := by
      show (((nD x).pl (max n1 n2 + 1) && (h1.d.pl (max n1 n2 + 1) && true)) && (((nD y).pl (max n1 n2 + 1) && (h2.d.pl (max n1 n2 + 1) && true)) && true)) = true
      rw [f1, f2, g1, g2]
      rfl
    have h4 : (D.int (p : Int)).pl (max n1 n2 + 3) = true := rfl
    rw [ha, h3, h4]
    rfl
end
end S

namespace S
open Z PySem PySem.Spec PyProof.Rows L2
/-! W46: decides. -/
section
variable {c : Clk} {sizes : List Nat} {p : Nat} {r : Row} {b S : Box} {l : List D} {x y : List Nat}
end
end S

namespace S
open Z PySem PySem.Spec PyProof.Rows L2
def putAt : Hr → List Nat → Hr → Hr
  | _, [], new => new
  | .ask p rows, k :: q, new => .ask p (rows.set k ((rows.getD k default).1, putAt (rows.getD k default).2 q new))
  | .fin, _ :: _, _ => .fin
section
variable {c : Clk} {sizes : List Nat} {p : Nat} {r : Row} {b S : Box} {l : List D} {x y : List Nat}
theorem put_zero {n : Nat} {d v : D} : c__law_put (n + 1) [⟨d, 0⟩, ⟨.tup [], 0⟩, ⟨v, 0⟩] = .ok (⟨v, 0⟩, [⟨d, 0⟩, ⟨.tup [], 0⟩, ⟨v, 0⟩]) := by
  refine Ret.eq ?_
  simp (maxSteps := 2000000) -implicitDefEqProofs [-List.getD_eq_getElem?_getD, -own_cons, own_consB, ixT0, ixT1, ixT2, ixT3, ixT4, c__law_put, m__law_put]
theorem put_step {n i : Nat} {ds rest : List D} {d d' v : D} (hi : ds[i]? = some d) (hl : ds.length ≤ 10000) (hr : rest.length ≤ 10000) (e : c__law_put n [⟨d, 0⟩, ⟨.tup rest, 0⟩, ⟨v, 0⟩] = .ok (⟨d', 0⟩, [⟨d, 0⟩, ⟨.tup rest, 0⟩, ⟨v, 0⟩])) :
    c__law_put (n + 1) [⟨.tup ds, 0⟩, ⟨.tup (.int (i : Int) :: rest), 0⟩, ⟨v, 0⟩] = .ok (⟨.tup (ds.set i d'), 0⟩, [⟨.tup ds, 0⟩, ⟨.tup (.int (i : Int) :: rest), 0⟩, ⟨v, 0⟩]) := by
  have hlt := (List.getElem?_eq_some_iff.mp hi).1
  have e0 : fIx [⟨.tup (.int (i : Int) :: rest), 0⟩, ⟨.int 0, 0⟩] = .ok ⟨.int (i : Int), 0⟩ := ixT (i := 0) rfl
  have e1 : fIx [⟨.tup ds, 0⟩, ⟨.int (i : Int), 0⟩] = .ok ⟨d, 0⟩ := ixT hi
  have c1 : cutD ds none (some (i : Int)) = ds.take i := cutD_to (by omega)
  have c2 : cutD ds (some ((i : Int) + 1)) none = ds.drop (i + 1) := cutD_from (k := i + 1) (by omega)
  have c3 : cutD (.int (i : Int) :: rest) (some 1) none = rest := cutD_from (k := 1) (by simp)
  have s1 : fSl ⟨.tup ds, 0⟩ none (some (i : Int)) = .ok ⟨.tup (ds.take i), 0⟩ := by
    show R.ok (Cell.fz (.tup (cutD _ _ _))) = _
    rw [c1]
    rfl
  have s2 : fSl ⟨.tup ds, 0⟩ (some ((i : Int) + 1)) none = .ok ⟨.tup (ds.drop (i + 1)), 0⟩ := by
    show R.ok (Cell.fz (.tup (cutD _ _ _))) = _
    rw [c2]
    rfl
  have s3 : fSl ⟨.tup (.int (i : Int) :: rest), 0⟩ (some 1) none = .ok ⟨.tup rest, 0⟩ := by
    show R.ok (Cell.fz (.tup (cutD _ _ _))) = _
    rw [c3]
    rfl
  have e3 : ds.set i d' = ds.take i ++ d' :: ds.drop (i + 1) := by rw [List.set_eq_take_append_cons_drop, if_pos hlt]
  refine Ret.eq ?_
  simp (maxSteps := 2000000) -implicitDefEqProofs [-List.getD_eq_getElem?_getD, -own_cons, own_consB, ixT0, ixT1, ixT2, ixT3, ixT4, c__law_put, m__law_put, e0, e1, s1, s2, s3, e, e3]
  omega
end
end S

namespace S
open Z PySem PySem.Spec PyProof.Rows L2
/-! W48: drawn hearings. -/
section
variable {c : Clk} {sizes : List Nat} {p : Nat} {r : Row} {b S : Box} {l : List D} {x y : List Nat}
end
end S

namespace S
open Z PySem PySem.Spec PyProof.Rows L2
/-! W65: givings: turns (plain). -/
section
variable {α : Type} [DecidableEq α]
end
structure RkOk (n m : Nat) (R : List (List Int)) : Prop where
  l : R.length = n
  nd : ∀ r ∈ R, r.Nodup
  mem : ∀ r ∈ R, ∀ t, t ∈ r ↔ 0 ≤ t ∧ t < m
  len : ∀ r ∈ R, r.length = m
structure PrOk (n m : Nat) (Pr : List (List Nat)) : Prop where
  l : Pr.length = m
  nd : ∀ r ∈ Pr, r.Nodup
  mem : ∀ r ∈ Pr, ∀ p, p ∈ r ↔ p < n
  len : ∀ r ∈ Pr, r.length = n
abbrev rk (R : List (List Int)) (p : Nat) : List Int := R.getD p []
abbrev gv (g : List Int) (p : Nat) : Int := g.getD p (-1)
abbrev spot (R : List (List Int)) (p : Nat) (t : Int) : Nat := (rk R p).idxOf t
structure Val (n m : Nat) (g : List Int) : Prop where
  l : g.length = n
  b : ∀ p, p < n → -1 ≤ gv g p ∧ gv g p < m
  d : ∀ p q, p < n → q < n → p ≠ q → gv g p = gv g q → gv g p = -1
section
variable {n m : Nat} {R : List (List Int)} {g h : List Int}
end
end S

namespace S
open Z PySem PySem.Spec PyProof.Rows L2
/-! W66: givings: first places (plain). -/
abbrev at_ (R : List (List Int)) (p place : Nat) : Int := (rk R p).getD place 0
section
variable {n m : Nat} {R : List (List Int)} {Pr : List (List Nat)} {g h : List Int} {place : Nat}
end
end S

namespace S
open Z PySem PySem.Spec PyProof.Rows L2
/-! W67: givings: offers (plain). -/
abbrev pv (pl : List Nat) (p : Nat) : Nat := pl.getD p 0
def offerF (R : List (List Int)) (pl : List Nat) (p : Nat) : Int := if pv pl p < (rk R p).length then (rk R p).getD (pv pl p) 0 else -1
def FairP (n : Nat) (R : List (List Int)) (Pr : List (List Nat)) (g : List Int) : Prop :=
  ∀ p, p < n → ∀ t, spot R p t < spot R p (gv g p) → ∃ q, q < n ∧ gv g q = t ∧ ¬ (Pr.getD t.toNat []).idxOf p < (Pr.getD t.toNat []).idxOf q
structure Da (n m : Nat) (R : List (List Int)) (Pr : List (List Nat)) (pl : List Nat) : Prop where
  l : pl.length = n
  le : ∀ p, p < n → pv pl p ≤ m
  a : ∀ g, Val n m g → FairP n R Pr g → ∀ p, p < n → pv pl p ≤ spot R p (gv g p)
  b : ∀ p, p < n → ∀ r, r < pv pl p → ∃ q, q < n ∧ q ≠ p ∧ offerF R pl q = at_ R p r ∧ (Pr.getD (at_ R p r).toNat []).idxOf q < (Pr.getD (at_ R p r).toNat []).idxOf p
section
variable {n m : Nat} {R : List (List Int)} {Pr : List (List Nat)} {g h : List Int} {pl : List Nat}
theorem PrOk.at (hp : PrOk n m Pr) {t : Nat} (ht : t < m) : (Pr.getD t []).Nodup ∧ (∀ p, p ∈ Pr.getD t [] ↔ p < n) := by
  have hm : Pr.getD t [] ∈ Pr := by rw [getD_of_lt (by rw [hp.l]; exact ht)]; exact List.getElem_mem _
  exact ⟨hp.nd _ hm, hp.mem _ hm⟩
end
end S

namespace S
open Z PySem PySem.Spec PyProof.Rows L2
/-! W68: givings: the program's turns and offers. -/
abbrev RD (R : List (List Int)) : D := .tup (R.map iD)
section
variable {l : List D} {n m k k' : Nat} {R : List (List Int)} {Pr : List (List Nat)} {r g left : List Int} {ps pr pl : List Nat}
theorem lenIi : fLen [⟨iD r, k⟩] = .ok ⟨.int (r.length : Nat), 0⟩ := by
  show Z.R.ok (Cell.fz (.int ((r.map D.int).length : Nat))) = _
  rw [List.length_map]
  rfl
theorem ixI0 {p : Nat} (h : p < r.length) : fIx [⟨iD r, k⟩, ⟨.int (p : Int), k'⟩] = .ok ⟨.int (r.getD p 0), 0⟩ := ixT (by show (r.map D.int)[p]? = _; rw [List.getElem?_map, List.getElem?_eq_getElem h, getD_of_lt h]; rfl)
end
end S

namespace S
open Z PySem PySem.Spec PyProof.Rows L2
/-! W69: givings: the program's three ways. -/
section
variable {l : List D} {n m k k' : Nat} {R : List (List Int)} {Pr : List (List Nat)} {r g left : List Int} {ps pr pl L : List Nat}
end
end S

namespace S
open Z PySem PySem.Spec PyProof.Rows L2
def IsPm (n : Nat) (L : List Nat) : Prop := L.Perm (List.range n)
section
variable {l : List D} {n m k k' : Nat} {R : List (List Int)} {Pr : List (List Nat)} {r g h left : List Int} {ps pr pl L : List Nat}
theorem IsPm.mem (h : IsPm n L) (p : Nat) : p ∈ L ↔ p < n := by rw [List.Perm.mem_iff h, List.mem_range]
theorem IsPm.nd (h : IsPm n L) : L.Nodup := (List.Perm.nodup_iff h).mpr List.nodup_range
theorem IsPm.len (h : IsPm n L) : L.length = n := by rw [List.Perm.length_eq h, List.length_range]
end
end S

namespace S
open Z PySem PySem.Spec PyProof.Rows L2
/-! W71: givings: all givings, fair ones, as good ones. -/
def ts (m : Nat) : List Int := (List.range (m + 1)).map fun (i : Nat) => (-1 : Int) + (i : Int)
section
variable {l : List D} {n m k k' : Nat} {R : List (List Int)} {Pr : List (List Nat)} {r g h left : List Int} {ps pr pl L : List Nat}
end
end S

namespace S
open Z PySem PySem.Spec PyProof.Rows L2
/-! W72: givings: the law's rounds, fair givings, as good ones. -/
section
variable {l : List D} {n m k k' : Nat} {R : List (List Int)} {Pr : List (List Nat)} {r g h left : List Int} {ps pr pl L : List Nat}
theorem some_any {α β : Type} {l : List α} {P : α → Bool} {c : β} : (l.findSome? fun x => if P x then some c else none) = if l.any P then some c else none := by
  induction l with
  | nil => rfl
  | cons a l ih =>
    rw [List.findSome?_cons, List.any_cons]
    cases h : P a with
    | true => simp
    | false => simpa using ih
end
end S

namespace S
open Z PySem PySem.Spec PyProof.Rows L2
/-! W79: things like hearings, and what is right of them (plain). -/
mutual
inductive Th where
  | one (w : Str)
  | three (w : Str) (p : Int) (bs : Bs)
inductive Bs where
  | nil
  | cons (ks : List Int) (t : Th) (r : Bs)
end
instance : Inhabited Th := ⟨.one "end"⟩
def Bs.toL : Bs → List (List Int × Th)
  | .nil => []
  | .cons ks t r => (ks, t) :: r.toL
mutual
def Th.d : Th → D
  | .one w => .tup [.str w]
  | .three w p bs => .tup [.str w, .int p, .tup bs.ds]
def Bs.ds : Bs → List D
  | .nil => []
  | .cons ks t r => .tup [iD ks, t.d] :: r.ds
end
abbrev brD (x : List Int × Th) : D := .tup [iD x.1, x.2.d]
theorem Bs.ds_eq : ∀ {bs : Bs}, bs.ds = bs.toL.map brD
  | .nil => rfl
  | .cons ks t r => by
    show D.tup [iD ks, t.d] :: r.ds = _
    rw [Bs.ds_eq]
    rfl
def ascB (l : List Int) : Bool := (List.range (l.length - 1)).all fun k => decide (l.getD k 0 < l.getD (k + 1) 0)
def firsts (ps : List (List Int)) : List Int := ps.map fun p => p.getD 0 0
def partsOk (ps : List (List Int)) (kinds : List Int) : Bool := decide (2 ≤ ps.length) && ps.all (fun p => decide (p ≠ []) && ascB p) && ascB (firsts ps) && decide (isort ps.flatten = kinds)
mutual
def Th.good (b : List (List Int)) : Th → Bool
  | .one w => decide (w = "end")
  | .three w p bs => decide (w = "ask") && decide (0 ≤ p ∧ p < b.length) && partsOk (bs.toL.map (·.1)) (b.getD p.toNat []) && Bs.good b p.toNat bs
def Bs.good (b : List (List Int)) (p : Nat) : Bs → Bool
  | .nil => true
  | .cons ks t r => Th.good (b.set p ks) t && Bs.good b p r
end
mutual
def Th.dp : Th → Nat
  | .one _ => 1
  | .three _ _ bs => bs.dp + 1
def Bs.dp : Bs → Nat
  | .nil => 0
  | .cons _ t r => max t.dp r.dp
end
mutual
def Th.sz : Th → Nat
  | .one _ => 1
  | .three _ _ bs => bs.sz + 1
def Bs.sz : Bs → Nat
  | .nil => 0
  | .cons _ t r => t.sz + r.sz
end
/-! words, numbers of branches and kinds that the program can walk -/
mutual
def Th.fit : Th → Prop
  | .one w => D.okd.strOk w = true
  | .three w _ bs => D.okd.strOk w = true ∧ bs.toL.length ≤ 100 ∧ bs.fit
def Bs.fit : Bs → Prop
  | .nil => True
  | .cons ks t r => ks.length ≤ 1000 ∧ t.fit ∧ r.fit
end
section
variable {b : List (List Int)} {p : Nat} {bs : Bs} {t : Th}
theorem Bs.sz_sum : ∀ {bs : Bs}, bs.sz = (bs.toL.map fun x => x.2.sz).sum
  | .nil => rfl
  | .cons ks t r => by
    show t.sz + r.sz = _
    rw [Bs.sz_sum]
    rfl
end
end S

namespace S
open Z PySem PySem.Spec PyProof.Rows L2
/-! W80: the program's judge of hearings. -/

section
variable {b ps : List (List Int)} {l kinds ks : List Int} {p : Nat} {bs : Bs} {t : Th} {c : Cell} {k k' m : Nat} {hd : D}
end
end S

namespace S
open Z PySem PySem.Spec PyProof.Rows L2
section
variable {b ps : List (List Int)} {l kinds ks share : List Int} {p : Nat} {bs : Bs} {t : Th} {c : Cell} {k k' m : Nat} {hd : D}
end
end S

namespace S
open Z PySem PySem.Spec PyProof.Rows L2
structure BoxS (b : List (List Int)) : Prop where
  l : b.length ≤ 100
  s : ∀ q ∈ b, isort q = q ∧ q ≠ []
section
variable {b : List (List Int)} {ks : List Int} {p : Nat} {bs : Bs} {t : Th} {k k' : Nat}
end
end S

namespace S
open Z PySem PySem.Spec PyProof.Rows L2
/-! W83: paths into data; the law's places, at and put. -/
def getAt : D → List Nat → Option D
  | d, [] => some d
  | .tup l, k :: q => match l[k]? with
    | some x => getAt x q
    | none => none
  | _, _ :: _ => none
def putD : D → List Nat → D → D
  | _, [], v => v
  | .tup l, k :: q, v => .tup (l.set k (putD (l.getD k .non) q v))
  | d, _ :: _, _ => d
section
variable {b : Box} {h : Hr} {x y d v : D} {p q : List Nat} {l : List D} {k : Nat}
theorem getAt_snoc : ∀ {q : List Nat} {d : D} {l : List D} {k : Nat} {x : D}, getAt d q = some (.tup l) → l[k]? = some x → getAt d (q ++ [k]) = some x
  | [], d, l, k, x, h, hk => by
    have h : d = .tup l := Option.some.inj (by cases d <;> exact h)
    subst h
    show (match l[k]? with | some x => getAt x [] | none => none) = _
    rw [hk]
    cases x <;> rfl
  | i :: q, d, l, k, x, h, hk => by
    cases d with
    | tup m =>
      have h : (match m[i]? with | some x => getAt x q | none => none) = some (.tup l) := h
      cases hi : m[i]? with
      | none => rw [hi] at h; cases h
      | some y =>
        rw [hi] at h
        show (match m[i]? with | some x => getAt x (q ++ [k]) | none => none) = _
        rw [hi]
        exact getAt_snoc h hk
    | _ => cases h
theorem getAt_nil : getAt d [] = some d := by cases d <;> rfl
theorem getAt_tup {i : Nat} : getAt (.tup l) (i :: q) = (match l[i]? with | some x => getAt x q | none => none) := rfl
theorem law_at_ok (hg : getAt d q = some x) : c__law_at [⟨d, 0⟩, ⟨nD q, 0⟩] = .ok (⟨x, 0⟩, [⟨d, 0⟩, ⟨nD q, 0⟩]) := by
  refine Ret.eq ?_
  simp (maxSteps := 2000000) -implicitDefEqProofs [-List.getD_eq_getElem?_getD, -own_cons, own_consB, ixT0, ixT1, ixT2, ixT3, ixT4, c__law_at, m__law_at]
  refine Ret_for q (fun (i : Nat) => D.int (i : Int)) [3] (fun (s : D) ρ => ρ.set 2 (some ⟨s, 0⟩)) (fun done rest s => getAt s rest = some x) d rfl rfl hg (fun done i rest s j e hI => ?_) fun s j hI => ?_
  · cases s with
    | tup m =>
      rw [getAt_tup] at hI
      cases hi : m[i]? with
      | none => rw [hi] at hI; cases hI
      | some y =>
        rw [hi] at hI
        have e1 : fIx [⟨.tup m, 0⟩, ⟨.int (i : Int), 0⟩] = .ok ⟨y, 0⟩ := ixT hi
        simp (maxSteps := 2000000) -implicitDefEqProofs [-List.getD_eq_getElem?_getD, -own_cons, own_consB, ixT0, ixT1, ixT2, ixT3, ixT4, step1, b__law_at_1, e1]
        exact hI
    | _ => cases hI
  · rw [getAt_nil] at hI
    injection hI with hI
    subst hI
    simp (maxSteps := 2000000) -implicitDefEqProofs [-List.getD_eq_getElem?_getD, -own_cons, own_consB, ixT0, ixT1, ixT2, ixT3, ixT4]
theorem law_put_D : ∀ {q : List Nat} {d x v : D} {n : Nat}, getAt d q = some x → cnD d ≤ 10000 → q.length ≤ 1000 → c__law_put (q.length + 1 + n) [⟨d, 0⟩, ⟨nD q, 0⟩, ⟨v, 0⟩] = .ok (⟨putD d q v, 0⟩, [⟨d, 0⟩, ⟨nD q, 0⟩, ⟨v, 0⟩])
  | [], d, x, v, n, _, _, _ => by
    rw [show ([] : List Nat).length + 1 + n = n + 1 by simp; omega]
    have : putD d [] v = v := by cases d <;> rfl
    rw [this]
    exact put_zero
  | i :: q, d, x, v, n, hg, hc, hq => by
    cases d with
    | tup m =>
      rw [getAt_tup] at hg
      cases hi : m[i]? with
      | none => rw [hi] at hg; cases hg
      | some y =>
        rw [hi] at hg
        have hcm : cnD (.tup m) = cnL m + 1 := rfl
        have hlm := len_cnL (a := m)
        have hym : y ∈ m := List.mem_of_getElem? hi
        obtain ⟨m1, m2, rfl⟩ := List.append_of_mem hym
        have hcy : cnD y ≤ cnL (m1 ++ y :: m2) := by
          rw [cnL_append, cnL]
          omega
        have ih := law_put_D (v := v) (n := n) hg (by omega) (by simp at hq; omega)
        have hgd : (m1 ++ y :: m2).getD i .non = y := by rw [List.getD_eq_getElem?_getD, hi]; rfl
        have s := put_step (rest := nL q) hi (by omega) (by unfold nL; rw [List.length_map]; simp at hq; omega) ih
        have e9 : putD (.tup (m1 ++ y :: m2)) (i :: q) v = .tup ((m1 ++ y :: m2).set i (putD ((m1 ++ y :: m2).getD i .non) q v)) := rfl
        rw [e9, hgd, show (i :: q).length + 1 + n = q.length + 1 + n + 1 by simp; omega]
        exact s
    | _ => cases hg
/-! ### sorted paths -/
theorem perm_map {α β : Type} {f : α → β} : ∀ {ps : List α} {L : List β}, L.Perm (ps.map f) → ∃ qs : List α, qs.Perm ps ∧ L = qs.map f
  | [], L, h => ⟨[], .nil, by simpa using h⟩
  | p :: ps, L, h => by
    have hm : f p ∈ L := h.symm.subset (by simp)
    obtain ⟨s, t, rfl⟩ := List.append_of_mem hm
    have h2 : (s ++ t).Perm (ps.map f) := by
      have h3 : (f p :: (s ++ t)).Perm (f p :: ps.map f) := (List.perm_middle.symm).trans h
      exact h3.cons_inv
    obtain ⟨qs, e1, e2⟩ := perm_map h2
    obtain ⟨q1, q2, rfl, e3, e4⟩ := List.map_eq_append_iff.mp e2.symm
    refine ⟨q1 ++ p :: q2, List.perm_middle.trans (e1.cons p), ?_⟩
    rw [List.map_append, List.map_cons, e3, e4]
theorem sort_paths {ps : List (List Nat)} (hne : ∀ p ∈ ps, p ≠ []) : ∃ qs : List (List Nat), qs.Perm ps ∧ fSort [⟨.lst (ps.map nD), 1⟩] = .ok ⟨.lst (qs.map nD), 1⟩ := by
  cases ps with
  | nil => exact ⟨[], .nil, by unfold fSort; simp [asInts, isort]⟩
  | cons p0 r =>
    have hi : asInts ((p0 :: r).map nD) = none := rfl
    unfold fSort
    simp only [if_pos (Nat.le_refl 1), hi]
    cases hp : asPairs ((p0 :: r).map nD) with
    | some qs =>
      have e := asPairs_eq hp
      have h1 : ((psort qs).map Z.pairD).Perm ((p0 :: r).map nD) := by
        rw [e]
        exact psort_perm.map _
      obtain ⟨zs, z1, z2⟩ := perm_map h1
      exact ⟨zs, z1, by simp only [z2]⟩
    | none =>
      have hb : ∀ p ∈ p0 :: r, D.begins (nD p) = some true := fun p hp => by
        cases p with
        | nil => exact absurd rfl (hne _ hp)
        | cons a p => rfl
      have hh : ((p0 :: r).map nD).head?.bind D.begins = some true := hb p0 (List.mem_cons_self ..)
      have hs : Shp.of (((p0 :: r).map nD).headD .non) = .seq .num := by
        show (if (nL p0).all _ = true then Shp.seq .num else _) = _
        rw [if_pos]
        rw [List.all_eq_true]
        intro d hd
        obtain ⟨a, _, rfl⟩ := List.mem_map.mp hd
        rfl
      have hk : keysOk (.seq .num) true ((p0 :: r).map nD) = true := by
        unfold keysOk
        rw [List.all_eq_true]
        intro d hd
        obtain ⟨p, hp, rfl⟩ := List.mem_map.mp hd
        rw [hb p hp]
        have h1 : (nD p).kn 9 = true := by
          show (nL p).all (D.kn 8) = true
          rw [List.all_eq_true]
          intro d hd
          obtain ⟨a, _, rfl⟩ := List.mem_map.mp hd
          rfl
        have h2 : (Shp.seq .num).fits (nD p).nk = true := by
          rw [show nD p = .tup (nL p) from rfl, D.nk, nkL_nats, Shp.fits, List.all_eq_true]
          intro k hk
          obtain ⟨a, _, rfl⟩ := List.mem_map.mp hk
          rfl
        rw [h1, h2]
        rfl
      simp only [hh, hs, hk, if_true]
      obtain ⟨zs, z1, z2⟩ := perm_map (ksort_perm (l := (p0 :: r).map nD))
      exact ⟨zs, z1, by rw [z2]⟩
end
end S

namespace S
open Z PySem PySem.Spec PyProof.Rows L2
/-! W84: the law's places. -/
def pthD (x : List Nat × D) : D := .tup [nD x.1, x.2]
def isI (d : D) (p : List Nat) : Prop := ∃ i, getAt d p = some (.int i)
section
variable {d : D} {n : Nat}
theorem isI_ne {l : List D} {p : List Nat} (h : isI (.tup l) p) : p ≠ [] := by
  obtain ⟨i, h⟩ := h
  rintro rfl
  rw [getAt_nil] at h
  cases h
theorem cnL_mem : ∀ {l : List D} {x : D}, x ∈ l → cnD x ≤ cnL l
  | a :: l, x, h => by
    rw [cnL]
    rcases List.mem_cons.mp h with rfl | h
    · omega
    · have := cnL_mem h
      omega
theorem isint_S {y : Str} : c_is_int [⟨.str y, 0⟩] = .ok (⟨.bl false, 0⟩, [⟨.str y, 0⟩]) := by
  have g : fIsi "int" [⟨.str y, 0⟩] = .ok ⟨.bl false, 0⟩ := rfl
  refine Ret.eq ?_
  simp (maxSteps := 2000000) -implicitDefEqProofs [-List.getD_eq_getElem?_getD, -own_cons, own_consB, ixT0, ixT1, ixT2, ixT3, ixT4, c_is_int, m_is_int, g]
theorem isint_Z : c_is_int [⟨.non, 0⟩] = .ok (⟨.bl false, 0⟩, [⟨.non, 0⟩]) := by
  have g : fIsi "int" [⟨.non, 0⟩] = .ok ⟨.bl false, 0⟩ := rfl
  refine Ret.eq ?_
  simp (maxSteps := 2000000) -implicitDefEqProofs [-List.getD_eq_getElem?_getD, -own_cons, own_consB, ixT0, ixT1, ixT2, ixT3, ixT4, c_is_int, m_is_int, g]
theorem law_places_ok {l : List D} (hpl : (D.tup l).pl n = true) (hc : cnD (.tup l) ≤ 10000) : ∃ ps : List (List Nat), (∀ p ∈ ps, isI (.tup l) p) ∧ ps.length ≤ cnD (.tup l) ∧ c__law_places [⟨.tup l, 0⟩] = .ok (⟨.lst (ps.map nD), 1⟩, [⟨.tup l, 0⟩]) := by
  suffices hh : Ret (c__law_places [⟨.tup l, 0⟩]) fun a => ∃ ps : List (List Nat), (∀ p ∈ ps, isI (.tup l) p) ∧ ps.length ≤ cnD (.tup l) ∧ a = (⟨.lst (ps.map nD), 1⟩, [⟨.tup l, 0⟩]) by
    obtain ⟨a, e, ps, h1, h2, rfl⟩ := hh
    exact ⟨ps, h1, h2, e⟩
  have hne : ∀ p, isI (.tup l) p → p ≠ [] := fun p h => isI_ne h
  generalize hd : D.tup l = d at *
  simp (maxSteps := 2000000) -implicitDefEqProofs [-List.getD_eq_getElem?_getD, -own_cons, own_consB, ixT0, ixT1, ixT2, ixT3, ixT4, c__law_places, m__law_places, mWhile]
  rw [show D.tup [D.tup [], d] = pthD ([], d) from rfl]
  refine Ret_while (σ := List (List Nat) × List (List Nat × D)) [3, 4] (fun s ρ => (ρ.set 1 (some ⟨.lst (s.1.map nD), 1⟩)).set 2 (some ⟨.lst (s.2.map pthD), 1⟩)) (fun s => (∀ p ∈ s.1, isI d p) ∧ (∀ x ∈ s.2, getAt d x.1 = some x.2 ∧ (∃ n, x.2.pl n = true) ∧ x.1.length + cnD x.2 ≤ cnD d) ∧ s.1.length + cnL (s.2.map (·.2)) ≤ cnD d) (fun s => cnL (s.2.map (·.2))) ([], [([], d)]) rfl ⟨by simp, fun x hx => ?_, by simp [cnL]⟩ (by show cnD d + 0 < _; omega) (fun s j hI => ?_)
  · rw [List.mem_singleton.mp hx]
    exact ⟨getAt_nil, ⟨n, hpl⟩, by simp⟩
  obtain ⟨found, w⟩ := s
  obtain ⟨h1, h2, h3⟩ := hI
  simp only at h1 h2 h3
  have hnc : w = [] ∨ ∃ l a, w = l ++ [a] := by
    rcases List.eq_nil_or_concat w with h | ⟨l, a, h⟩
    · exact Or.inl h
    · exact Or.inr ⟨l, a, by rw [h, List.concat_eq_append]⟩
  rcases hnc with rfl | ⟨w, x, rfl⟩
  · obtain ⟨qs, q1, q2⟩ := sort_paths (ps := found) fun p hp => hne p (h1 p hp)
    simp (maxSteps := 2000000) -implicitDefEqProofs [-List.getD_eq_getElem?_getD, -own_cons, own_consB, ixT0, ixT1, ixT2, ixT3, ixT4, t__law_places_2, q2]
    exact ⟨qs, fun p hp => h1 p (q1.mem_iff.mp hp), by rw [q1.length_eq]; omega, rfl⟩
  · obtain ⟨xp, xd⟩ := x
    obtain ⟨x1, ⟨n', x2⟩, x3⟩ := h2 (xp, xd) (by simp)
    simp only at x1 x2 x3
    have hw' : cnL ((w ++ [(xp, xd)]).map (·.2)) = cnL (w.map (·.2)) + cnD xd := by
      rw [List.map_append, cnL_append]
      rfl
    have hs : ∀ y ∈ w, getAt d y.1 = some y.2 ∧ (∃ n, y.2.pl n = true) ∧ y.1.length + cnD y.2 ≤ cnD d := fun y hy => h2 y (by simp [hy])
    have ep : fPop0 (w.map pthD ++ [D.tup [nD xp, xd]]) [] = .ok (D.tup [nD xp, xd], w.map pthD) := fPop0_snoc
    have em : (w ++ [(xp, xd)]).map pthD = w.map pthD ++ [D.tup [nD xp, xd]] := by rw [List.map_append]; rfl
    have hxp := cnD_pos (d := xd)
    have hlw := len_cnL (a := w.map (·.2))
    rw [List.length_map] at hlw
    dsimp only
    rw [em]
    rw [hw'] at h3 ⊢
    have hlt : cnL (w.map (·.2)) < cnL (w.map (·.2)) + cnD xd := by omega
    have hle : found.length + cnL (w.map (·.2)) ≤ cnD d := by omega
    cases xd with
    | non =>
      simp (maxSteps := 2000000) -implicitDefEqProofs [-List.getD_eq_getElem?_getD, -own_cons, own_consB, ixT0, ixT1, ixT2, ixT3, ixT4, t__law_places_2, b__law_places_3, ep, isint_Z]
      exact ⟨found, w, ⟨rfl, rfl⟩, ⟨h1, fun a b h => hs (a, b) h, hle⟩, hlt⟩
    | str y =>
      simp (maxSteps := 2000000) -implicitDefEqProofs [-List.getD_eq_getElem?_getD, -own_cons, own_consB, ixT0, ixT1, ixT2, ixT3, ixT4, t__law_places_2, b__law_places_3, ep, isint_S]
      exact ⟨found, w, ⟨rfl, rfl⟩, ⟨h1, fun a b h => hs (a, b) h, hle⟩, hlt⟩
    | int i =>
      simp (maxSteps := 2000000) -implicitDefEqProofs [-List.getD_eq_getElem?_getD, -own_cons, own_consB, ixT0, ixT1, ixT2, ixT3, ixT4, t__law_places_2, b__law_places_3, ep, c_is_int, m_is_int]
      refine ⟨by omega, found ++ [xp], w, ⟨by rw [List.map_append]; rfl, rfl⟩, ⟨fun p hp => ?_, fun a b h => hs (a, b) h, ?_⟩, hlt⟩
      · rcases List.mem_append.mp hp with hp | hp
        · exact h1 p hp
        · rw [List.mem_singleton.mp hp]
          exact ⟨i, x1⟩
      · rw [List.length_append, List.length_singleton]
        omega
    | tup m =>
      have hwt : cnD (.tup m) = cnL m + 1 := rfl
      have hlm := len_cnL (a := m)
      have g1 : fIsi "tuple" [⟨.tup m, 0⟩] = .ok ⟨.bl true, 0⟩ := rfl
      simp (maxSteps := 2000000) -implicitDefEqProofs [-List.getD_eq_getElem?_getD, -own_cons, own_consB, ixT0, ixT1, ixT2, ixT3, ixT4, t__law_places_2, b__law_places_3, ep, g1, rgD_nat']
      refine ⟨by omega, by omega, ?_⟩
      refine Ret_comp (List.range m.length) (fun (i : Nat) => D.int (i : Int)) (fun i => pthD (xp ++ [i], m.getD i .non)) rfl (fun i hi => ?_) ?_
      · have hi := List.mem_range.mp hi
        have e1 : fIx [⟨.tup m, 0⟩, ⟨.int (i : Int), 0⟩] = .ok ⟨m.getD i .non, 0⟩ := ixT (getD_some hi)
        have e2 : nD (xp ++ [i]) = .tup (nL xp ++ [.int (i : Int)]) := by unfold nD nL; rw [List.map_append]; rfl
        have e3 : nD xp = .tup (nL xp) := rfl
        have e4 : (nL xp).length = xp.length := by simp [nL]
        simp (maxSteps := 2000000) -implicitDefEqProofs [-List.getD_eq_getElem?_getD, -own_cons, own_consB, ixT0, ixT1, ixT2, ixT3, ixT4, comp1, e__law_places_1, e1, pthD, e2, e3]
        omega
      · have e2 : (List.range m.length).map (fun i => pthD (xp ++ [i], m.getD i .non)) = ((List.range m.length).map fun i => (xp ++ [i], m.getD i .non)).map pthD := by rw [List.map_map]; rfl
        have e4 : ((List.range m.length).map fun i => (xp ++ [i], m.getD i .non)).map (·.2) = m := by
          rw [List.map_map]
          refine List.ext_getElem (by simp) fun i h1 h2 => ?_
          simp [List.getElem?_eq_getElem h2]
        rw [e2]
        have e5 : ∀ y ∈ ((List.range m.length).map fun i => (xp ++ [i], m.getD i .non)), getAt d y.1 = some y.2 ∧ (∃ n, y.2.pl n = true) ∧ y.1.length + cnD y.2 ≤ cnD d := fun y hy => by
          obtain ⟨i, hi, rfl⟩ := List.mem_map.mp hy
          have hi := List.mem_range.mp hi
          have hm : m.getD i .non ∈ m := by rw [getD_of_lt hi]; exact List.getElem_mem _
          refine ⟨getAt_snoc x1 (getD_some hi), ?_, ?_⟩
          · cases n' with
            | zero => simp [D.pl] at x2
            | succ n => exact ⟨n, by simp only [D.pl, List.all_eq_true] at x2; exact x2 _ hm⟩
          · have := cnL_mem hm
            simp only [List.length_append, List.length_singleton]
            omega
        have e6 : ((List.range m.length).map fun i => (xp ++ [i], m.getD i .non)).length = m.length := by simp
        generalize ((List.range m.length).map fun i => (xp ++ [i], m.getD i .non)) = ch at *
        simp (maxSteps := 2000000) -implicitDefEqProofs [-List.getD_eq_getElem?_getD, -own_cons, own_consB, ixT0, ixT1, ixT2, ixT3, ixT4]
        refine ⟨by omega, found, w ++ ch, ⟨rfl, by rw [List.map_append]⟩, ⟨h1, fun a b h => ?_, ?_⟩, ?_⟩
        · rcases List.mem_append.mp h with h | h
          · exact hs (a, b) h
          · exact e5 (a, b) h
        · rw [List.map_append, cnL_append, e4]
          omega
        · rw [List.map_append, cnL_append, e4]
          omega
    | bl b => cases n' <;> simp [D.pl] at x2
    | lst b => cases n' <;> simp [D.pl] at x2
    | scr b => cases n' <;> simp [D.pl] at x2
    | dct b => cases n' <;> simp [D.pl] at x2
end
end S

namespace S
open Z PySem PySem.Spec PyProof.Rows L2
/-! W85: things made of things. -/
def Bs.ofL : List (List Int × Th) → Bs
  | [] => .nil
  | x :: r => .cons x.1 x.2 (Bs.ofL r)
theorem Bs.toL_ofL : ∀ {l : List (List Int × Th)}, (Bs.ofL l).toL = l
  | [] => rfl
  | x :: r => by
    show (x.1, x.2) :: (Bs.ofL r).toL = _
    rw [Bs.toL_ofL]
theorem Bs.fit_ofL : ∀ {l : List (List Int × Th)}, (∀ x ∈ l, x.1.length ≤ 1000 ∧ x.2.fit) → (Bs.ofL l).fit
  | [], _ => trivial
  | x :: r, h => ⟨(h x (List.mem_cons_self ..)).1, (h x (List.mem_cons_self ..)).2, Bs.fit_ofL fun y hy => h y (List.mem_cons_of_mem _ hy)⟩
theorem Bs.dp_ofL {m : Nat} : ∀ {l : List (List Int × Th)}, (∀ x ∈ l, x.2.dp ≤ m) → (Bs.ofL l).dp ≤ m
  | [], _ => Nat.zero_le _
  | x :: r, h => Nat.max_le.mpr ⟨h x (List.mem_cons_self ..), Bs.dp_ofL fun y hy => h y (List.mem_cons_of_mem _ hy)⟩
def ThD (m n : Nat) (x : D) : Prop := ∃ t : Th, x = t.d ∧ t.fit ∧ t.dp ≤ m ∧ t.sz ≤ n
def BsD (m n : Nat) (xs : List D) : Prop := ∃ l : List (List Int × Th), xs = l.map brD ∧ (∀ x ∈ l, x.1.length ≤ 1000 ∧ x.2.fit ∧ x.2.dp ≤ m) ∧ (l.map fun x => x.2.sz).sum ≤ n
section
variable {m n m' n' k : Nat} {w : Str} {p : Int} {xs ys : List D} {x v : D} {ks : List Int} {b : Box} {h z : Hr}
theorem ThD.one (hw : D.okd.strOk w = true) : ThD 1 1 (.tup [.str w]) := ⟨.one w, rfl, hw, Nat.le_refl _, Nat.le_refl _⟩
theorem ThD.ask (hw : D.okd.strOk w = true) (hb : BsD m n xs) (hl : xs.length ≤ 100) : ThD (m + 1) (n + 1) (.tup [.str w, .int p, .tup xs]) := by
  obtain ⟨l, rfl, h1, h2⟩ := hb
  rw [List.length_map] at hl
  refine ⟨.three w p (Bs.ofL l), ?_, ⟨hw, by rw [Bs.toL_ofL]; exact hl, Bs.fit_ofL fun x hx => ⟨(h1 x hx).1, (h1 x hx).2.1⟩⟩, ?_, ?_⟩
  · show _ = D.tup [.str w, .int p, .tup (Bs.ofL l).ds]
    rw [Bs.ds_eq, Bs.toL_ofL]
  · exact Nat.succ_le_succ (Bs.dp_ofL fun x hx => (h1 x hx).2.2)
  · refine Nat.succ_le_succ ?_
    rw [Bs.sz_sum, Bs.toL_ofL]
    exact h2
theorem ThD.mono (h : ThD m n x) (hm : m ≤ m') (hn : n ≤ n') : ThD m' n' x := by
  obtain ⟨t, h1, h2, h3, h4⟩ := h
  exact ⟨t, h1, h2, by omega, by omega⟩
theorem BsD.mono (h : BsD m n xs) (hm : m ≤ m') (hn : n ≤ n') : BsD m' n' xs := by
  obtain ⟨l, h1, h2, h3⟩ := h
  exact ⟨l, h1, fun x hx => ⟨(h2 x hx).1, (h2 x hx).2.1, by have := (h2 x hx).2.2; omega⟩, by omega⟩
theorem BsD.nil : BsD m n [] := ⟨[], rfl, by simp, Nat.zero_le _⟩
theorem BsD.one (hk : ks.length ≤ 1000) (h : ThD m n x) : BsD m n [.tup [iD ks, x]] := by
  obtain ⟨t, rfl, h2, h3, h4⟩ := h
  exact ⟨[(ks, t)], rfl, fun y hy => by rw [List.mem_singleton.mp hy]; exact ⟨hk, h2, h3⟩, by simpa using h4⟩
theorem BsD.app (h : BsD m n xs) (h' : BsD m n' ys) : BsD m (n + n') (xs ++ ys) := by
  obtain ⟨l, rfl, h2, h3⟩ := h
  obtain ⟨l', rfl, h2', h3'⟩ := h'
  refine ⟨l ++ l', by rw [List.map_append], fun x hx => (List.mem_append.mp hx).elim (h2 x) (h2' x), ?_⟩
  rw [List.map_append, List.sum_append]
  omega
theorem sum_sub {l l' : List Nat} (h : l'.Sublist l) : l'.sum ≤ l.sum := by
  induction h with
  | slnil => exact Nat.le_refl _
  | cons a _ ih => rw [List.sum_cons]; omega
  | cons_cons a _ ih => rw [List.sum_cons, List.sum_cons]; omega
theorem BsD.sub (h : BsD m n xs) (hs : ys.Sublist xs) : BsD m n ys := by
  obtain ⟨l, rfl, h2, h3⟩ := h
  obtain ⟨l', hl', rfl⟩ := List.sublist_map_iff.mp hs
  exact ⟨l', rfl, fun x hx => h2 x (hl'.subset hx), Nat.le_trans (sum_sub (hl'.map _)) h3⟩
theorem sum_mem {l : List Nat} {x : Nat} (h : x ∈ l) : x ≤ l.sum := by
  have := sum_sub (List.singleton_sublist.mpr h)
  simpa using this
theorem BsD.at (h : BsD m n xs) (hx : xs[k]? = some x) : ∃ (ks : List Int) (y : D), x = .tup [iD ks, y] ∧ ks.length ≤ 1000 ∧ ThD m n y := by
  obtain ⟨l, rfl, h2, h3⟩ := h
  rw [List.getElem?_map] at hx
  cases hl : l[k]? with
  | none => rw [hl] at hx; cases hx
  | some y =>
    rw [hl] at hx
    injection hx with hx
    have hm := List.mem_of_getElem? hl
    obtain ⟨a1, a2, a3⟩ := h2 y hm
    have hs : y.2.sz ≤ (l.map fun x => x.2.sz).sum := sum_mem (List.mem_map.mpr ⟨y, hm, rfl⟩)
    exact ⟨y.1, y.2.d, hx.symm, a1, y.2, rfl, a2, a3, by omega⟩
/-! ### a number is changed -/
mutual
theorem th_putInt : ∀ (t : Th) (p : List Nat) (i j : Int), getAt t.d p = some (.int i) → ∃ t' : Th, putD t.d p (.int j) = t'.d ∧ (t.fit → t'.fit) ∧ t'.dp = t.dp ∧ t'.sz = t.sz
  | .one w, [], i, j, h => by cases h
  | .one w, [0], i, j, h => by cases h
  | .one w, 0 :: _ :: _, i, j, h => by cases h
  | .one w, (_ + 1) :: _, i, j, h => by cases h
  | .three w q bs, [], i, j, h => by cases h
  | .three w q bs, [0], i, j, h => by cases h
  | .three w q bs, 0 :: _ :: _, i, j, h => by cases h
  | .three w q bs, [1], i, j, h => ⟨.three w j bs, rfl, fun h => h, rfl, rfl⟩
  | .three w q bs, 1 :: _ :: _, i, j, h => by cases h
  | .three w q bs, 2 :: p, i, j, h => by
    obtain ⟨bs', e, h1, h2, h3, h4⟩ := bs_putInt bs p i j h
    refine ⟨.three w q bs', ?_, fun hf => ⟨hf.1, by rw [h1]; exact hf.2.1, h2 hf.2.2⟩, ?_, ?_⟩
    · show D.tup [.str w, .int q, putD (.tup bs.ds) p (.int j)] = _
      rw [e]
      rfl
    · show bs'.dp + 1 = bs.dp + 1
      rw [h3]
    · show bs'.sz + 1 = bs.sz + 1
      rw [h4]
  | .three w q bs, (_ + 3) :: _, i, j, h => by cases h
theorem bs_putInt : ∀ (bs : Bs) (p : List Nat) (i j : Int), getAt (.tup bs.ds) p = some (.int i) → ∃ bs' : Bs, putD (.tup bs.ds) p (.int j) = .tup bs'.ds ∧ bs'.toL.length = bs.toL.length ∧ (bs.fit → bs'.fit) ∧ bs'.dp = bs.dp ∧ bs'.sz = bs.sz
  | .nil, [], i, j, h => by cases h
  | .nil, _ :: _, i, j, h => by cases h
  | .cons ks t r, [], i, j, h => by cases h
  | .cons ks t r, [0], i, j, h => by cases h
  | .cons ks t r, 0 :: 0 :: q, i, j, h => by
    cases q with
    | nil => cases h
    | cons a q =>
      cases q with
      | cons a' q =>
        have h : (match (ks.map D.int)[a]? with | some x => getAt x (a' :: q) | none => none) = some (.int i) := h
        rw [List.getElem?_map] at h
        cases hk : ks[a]? with
        | none => rw [hk] at h; cases h
        | some y => rw [hk] at h; cases h
      | nil =>
        refine ⟨.cons (ks.set a j) t r, ?_, rfl, fun hf => ⟨by rw [List.length_set]; exact hf.1, hf.2⟩, rfl, rfl⟩
        show D.tup (.tup [.tup ((ks.map D.int).set a (.int j)), t.d] :: r.ds) = .tup (.tup [.tup ((ks.set a j).map D.int), t.d] :: r.ds)
        rw [List.map_set]
  | .cons ks t r, 0 :: 1 :: q, i, j, h => by
    obtain ⟨t', e, h1, h2, h3⟩ := th_putInt t q i j h
    refine ⟨.cons ks t' r, ?_, rfl, fun hf => ⟨hf.1, h1 hf.2.1, hf.2.2⟩, ?_, ?_⟩
    · show D.tup (.tup [iD ks, putD t.d q (.int j)] :: r.ds) = _
      rw [e]
      rfl
    · show max t'.dp r.dp = max t.dp r.dp
      rw [h2]
    · show t'.sz + r.sz = t.sz + r.sz
      rw [h3]
  | .cons ks t r, 0 :: (_ + 2) :: q, i, j, h => by cases h
  | .cons ks t r, (k + 1) :: q, i, j, h => by
    obtain ⟨r', e, h1, h2, h3, h4⟩ := bs_putInt r (k :: q) i j h
    have e : D.tup (r.ds.set k (putD (r.ds.getD k .non) q (.int j))) = .tup r'.ds := e
    injection e with e
    refine ⟨.cons ks t r', ?_, ?_, fun hf => ⟨hf.1, hf.2.1, h2 hf.2.2⟩, ?_, ?_⟩
    · show D.tup (.tup [iD ks, t.d] :: r.ds.set k (putD (r.ds.getD k .non) q (.int j))) = .tup (.tup [iD ks, t.d] :: r'.ds)
      rw [e]
    · show r'.toL.length + 1 = r.toL.length + 1
      rw [h1]
    · show max t.dp r'.dp = max t.dp r.dp
      rw [h3]
    · show t.sz + r'.sz = t.sz + r.sz
      rw [h4]
end
end
end S

namespace S
open Z PySem PySem.Spec PyProof.Rows L2
/-! W86: drawn hearings as things; put at a node; a thing that is spoilt. -/
def upI (ks : List Nat) : List Int := ks.map fun (k : Nat) => (k : Int)
def bI (b : Box) : List (List Int) := b.map upI
section
variable {m n m' n' k : Nat} {w : Str} {p : Int} {xs ys l : List D} {x v d : D} {ks : List Nat} {b : Box} {h z : Hr} {q : List Nat}
theorem nD_up : nD ks = iD (upI ks) := by
  unfold upI
  show D.tup (nL ks) = .tup ((ks.map fun (k : Nat) => (k : Int)).map D.int)
  rw [List.map_map]
  rfl
theorem up_len : (upI ks).length = ks.length := List.length_map ..
theorem len8 {p : Nat} (hp : p < b.length) (h8 : ∀ q ∈ b, q.length ≤ 8) : (b.getD p []).length ≤ 8 := h8 _ (by rw [getD_of_lt hp]; exact List.getElem_mem _)
theorem rows8 {p : Nat} {rows : List (List Nat × Hr)} (ho : HearOk b (.ask p rows)) (h8 : ∀ q ∈ b, q.length ≤ 8) : 2 ≤ rows.length ∧ rows.length ≤ 8 ∧ (rows.map fun r => r.1.length).sum ≤ 8 := by
  cases ho with
  | ask hp h2 h3 h4 h5 =>
    have h6 := flat_len fun r hr => (h3 r hr).1
    have h7 := len8 hp h8
    rw [h4.length_eq] at h6
    refine ⟨h2, by omega, ?_⟩
    have h9 := h4.length_eq
    have e : (rows.map (·.1)).flatten.length = (rows.map fun r => r.1.length).sum := by
      rw [List.length_flatten, List.map_map]
      rfl
    rw [e] at h9
    omega
theorem ask_okd : D.okd.strOk ("ask" : Str) = true := by decide +kernel
theorem end_okd : D.okd.strOk ("end" : Str) = true := by decide +kernel
theorem cnL_sum : ∀ {l : List D}, cnL l = (l.map cnD).sum
  | [] => rfl
  | a :: l => by rw [cnL, List.map_cons, List.sum_cons, cnL_sum]
end
end S

namespace S
open Z PySem PySem.Spec PyProof.Rows L2
/-! W87: spoilt things; other words, other persons. -/
section
variable {m n m' n' k : Nat} {w : Str} {p : Nat} {xs ys l : List D} {x v d : D} {ks : List Nat} {b : Box} {h z : Hr} {q : List Nat}
theorem node_at {h : Hr} : ∀ {path : List Nat} {b : Box} {x : List Nat × Box × Hr}, x ∈ h.nodes path b → ∃ z, x.1 = path ++ z ∧ h.at z = some x.2.2 := by
  induction h using Hr.ind with
  | h0 =>
    intro path b x hm
    rw [Hr.nodes_fin, List.mem_singleton] at hm
    subst hm
    exact ⟨[], by simp, by unfold Hr.at; rfl⟩
  | h1 p rows ih =>
    intro path b x hm
    rw [Hr.nodes_ask] at hm
    rcases List.mem_cons.mp hm with rfl | hm
    · exact ⟨[], by simp, by unfold Hr.at; rfl⟩
    · obtain ⟨l, hl, hq⟩ := List.mem_flatten.mp hm
      obtain ⟨⟨r, k⟩, hk, rfl⟩ := List.mem_map.mp hl
      have hk2 := List.mem_zipIdx_iff_getElem?.mp hk
      simp only at hk2
      obtain ⟨z, e1, e2⟩ := ih r (List.mem_of_getElem? hk2) hq
      refine ⟨k :: z, by simp [e1], ?_⟩
      unfold Hr.at
      rw [hk2]
      exact e2
theorem getAt_pl : ∀ {q : List Nat} {d x : D} {n : Nat}, getAt d q = some x → d.pl n = true → q.length ≤ n
  | [], _, _, _, _, _ => Nat.zero_le _
  | k :: q, d, x, n, h, hp => by
    cases d with
    | tup l =>
      rw [getAt_tup] at h
      cases hi : l[k]? with
      | none => rw [hi] at h; cases h
      | some y =>
        rw [hi] at h
        cases n with
        | zero => simp [D.pl] at hp
        | succ n =>
          simp only [D.pl, List.all_eq_true] at hp
          exact Nat.succ_le_succ (getAt_pl h (hp y (List.mem_of_getElem? hi)))
    | _ => cases h
theorem GoodB.sp (g : GoodB b) : spare b ≤ 28 := by
  have := spare_le (b := b) (k := 7) fun q hq => by have := g.l8 q hq; omega
  have := g.b4
  omega
end
end S

namespace S
open Z PySem PySem.Spec PyProof.Rows L2
/-! W88: other words, other persons. -/
def ThL (xs : List D) : Prop := ∀ x ∈ xs, ThD 31 3000 x
section
variable {m n m' n' k : Nat} {w : Str} {p : Nat} {xs ys l rs : List D} {x v d nd : D} {ks : List Nat} {b : Box} {h z : Hr} {q : List Nat}
theorem ThL.nil : ThL [] := fun _ h => by cases h
theorem ThL.cons (h : ThD m n x) (hm : m ≤ 31) (hn : n ≤ 3000) (hl : ThL xs) : ThL (x :: xs) := fun y hy => by
  rcases List.mem_cons.mp hy with rfl | hy
  · exact h.mono hm hn
  · exact hl y hy
theorem ThL.app (h : ThL xs) (h' : ThL ys) : ThL (xs ++ ys) := fun y hy => (List.mem_append.mp hy).elim (h y) (h' y)
end
end S

namespace S
open Z PySem PySem.Spec PyProof.Rows L2
/-! W89: other kinds, other branches. -/
section
variable {m n m' n' k : Nat} {w : Str} {p : Nat} {xs ys l rs : List D} {x v d nd : D} {ks : List Nat} {b : Box} {h z : Hr} {q : List Nat} {rows : List (List Nat × Hr)} {K : List Int}
theorem cutT {l : List D} {k : Nat} (h : k ≤ l.length) : fSl ⟨.tup l, 0⟩ none (some (k : Int)) = .ok ⟨.tup (l.take k), 0⟩ := by
  show Z.R.ok (Cell.fz (.tup (cutD _ _ _))) = _
  rw [cutD_to h]
  rfl
theorem cutF {l : List D} {k : Nat} (h : k ≤ l.length) : fSl ⟨.tup l, 0⟩ (some (k : Int)) none = .ok ⟨.tup (l.drop k), 0⟩ := by
  show Z.R.ok (Cell.fz (.tup (cutD _ _ _))) = _
  rw [cutD_from h]
  rfl
theorem cutI {k : Nat} (h : k ≤ K.length) : fSl ⟨iD K, 0⟩ none (some (k : Int)) = .ok ⟨iD (K.take k), 0⟩ := by
  have := cutT (l := K.map D.int) (k := k) (by rw [List.length_map]; exact h)
  rw [← List.map_take] at this
  exact this
theorem cutIf {k : Nat} (h : k ≤ K.length) : fSl ⟨iD K, 0⟩ (some (k : Int)) none = .ok ⟨iD (K.drop k), 0⟩ := by
  have := cutF (l := K.map D.int) (k := k) (by rw [List.length_map]; exact h)
  rw [← List.map_drop] at this
  exact this
end
end S

namespace S
open Z PySem PySem.Spec PyProof.Rows L2
/-! W90: other branches. -/
section
variable {m n m' n' k : Nat} {w : Str} {p : Nat} {xs ys l rs : List D} {x v d nd : D} {ks : List Nat} {b : Box} {h z : Hr} {q : List Nat} {rows : List (List Nat × Hr)} {K : List Int}
end
end S

namespace S
open Z PySem PySem.Spec PyProof.Rows L2
/-! W91: the things of k31. -/
section
variable {m n m' n' k : Nat} {w : Str} {p : Nat} {xs ys l rs : List D} {x v d nd : D} {ks sizes : List Nat} {b : Box} {h z : Hr} {q : List Nat} {rows : List (List Nat × Hr)} {H : House}
end
end S

namespace S
open Z PySem PySem.Spec PyProof.Rows L2
/-! W92: what the program tells of a thing is what the law tells. -/
section
variable {m n k : Nat} {b w : Box} {t : Th} {x : D} {sizes : List Nat} {H : House} {ts : List Th}
end
end S

namespace S
open Z PySem PySem.Spec PyProof.Rows L2
/-! W93: papers of still boxes: plain facts, the program's judge. -/
def oIr : Option (List Int) → D
  | none => .non
  | some r => iD r
structure Pp where
  w : Str
  box : List (List Int)
  rows : List (Option (List Int))
  a : List Int
  b : List Int
def Pp.d (P : Pp) : D := .tup [.str P.w, RD P.box, .tup (P.rows.map oIr), .tup [iD P.a, iD P.b]]
structure Pp.fit (P : Pp) : Prop where
  w : D.okd.strOk P.w = true
  bl : P.box.length ≤ 100
  bs : ∀ q ∈ P.box, q.length ≤ 1000
  rl : P.rows.length ≤ 100
  rs : ∀ o ∈ P.rows, ∀ r, o = some r → r.length ≤ 1000
  al : P.a.length ≤ 1000
  bl2 : P.b.length ≤ 1000
def toR (r : List Int) : Row := r.map Int.toNat
def toB (S : List (List Int)) : Box := S.map toR
def partM (m : Nat) (q : List Int) : Bool := decide (q ≠ []) && q.all (fun x => decide (0 ≤ x ∧ x < (m : Int))) && ascB q
def boxM (sizes : List Nat) (S : List (List Int)) : Bool := decide (S.length = sizes.length) && (List.range sizes.length).all fun p => partM (sizes.getD p 0) (S.getD p [])
def rowM (b : Box) (r : List Int) : Bool := decide (r.length = b.length) && (List.range b.length).all fun p => decide (r.getD p 0 ∈ upI (b.getD p []))
def shownM (c : Clk) (sizes : List Nat) (b : Box) (p : Nat) : Option (List Int) → Bool
  | none => !decide (1 < (b.getD p []).length)
  | some r => decide (1 < (b.getD p []).length) && rowM b r && c.shows sizes b p (toR r)
def rowsM (c : Clk) (sizes : List Nat) (b : Box) (rows : List (Option (List Int))) : Bool := decide (rows.length = b.length) && (List.range b.length).all fun p => shownM c sizes b p (rows.getD p none)
def pairM (c : Clk) (sizes : List Nat) (b : Box) (x y : List Int) : Bool := rowM b x && rowM b y && !decide (c.win sizes (toR x) = c.win sizes (toR y))
def Pp.good (c : Clk) (sizes : List Nat) (P : Pp) : Bool := decide (P.w = "still") && boxM sizes P.box && rowsM c sizes (toB P.box) P.rows && pairM c sizes (toB P.box) P.a P.b
section
variable {c : Clk} {sizes : List Nat} {p m k k' : Nat} {b : Box} {l q r x y : List Int} {S : List (List Int)} {o : Option (List Int)} {rows : List (Option (List Int))} {P : Pp}
theorem toR_up {q : List Nat} : toR (upI q) = q := by
  unfold upI toR
  rw [List.map_map]
  exact (List.map_congr_left fun x _ => rfl).trans (List.map_id q)
end
end S

namespace S
open Z PySem PySem.Spec PyProof.Rows L2
/-! W94: papers of still boxes: the law's judge. -/
section
variable {c : Clk} {sizes : List Nat} {p m k k' : Nat} {b : Box} {l q r x y : List Int} {S : List (List Int)} {o : Option (List Int)} {rows : List (Option (List Int))} {P : Pp}
end
end S

namespace S
open Z PySem PySem.Spec PyProof.Rows L2
/-! W95: papers that are changed: put, an integer spoilt. -/
def PutC (C : D → Prop) : Prop := ∀ (d : D) (p : List Nat) (i j : Int), C d → getAt d p = some (.int i) → C (putD d p (.int j))
def TupC (n : Nat) (C : D → Prop) (d : D) : Prop := ∃ l : List D, d = .tup l ∧ l.length ≤ n ∧ ∀ x ∈ l, C x
def IntC (d : D) : Prop := ∃ i : Int, d = .int i
def RowC (d : D) : Prop := TupC 1000 IntC d
def OptC (d : D) : Prop := d = .non ∨ RowC d
def BoxC (d : D) : Prop := TupC 100 RowC d
def RowsC (d : D) : Prop := TupC 100 OptC d
def PairC (d : D) : Prop := ∃ x y : D, d = .tup [x, y] ∧ RowC x ∧ RowC y
def PpC (d : D) : Prop := ∃ (w : Str) (b r p : D), d = .tup [.str w, b, r, p] ∧ D.okd.strOk w = true ∧ BoxC b ∧ RowsC r ∧ PairC p
section
variable {d x y v b r p : D} {l : List D} {n k : Nat} {C : D → Prop} {P : Pp} {K : List Int} {w : Str} {q : List Nat}
theorem putD_nil : putD d [] v = v := by cases d <;> rfl
theorem getAt_cons {i : Nat} (h : getAt d (i :: q) = some x) : ∃ l y, d = .tup l ∧ l[i]? = some y ∧ getAt y q = some x := by
  cases d with
  | tup l =>
    rw [getAt_tup] at h
    cases hk : l[i]? with
    | none => rw [hk] at h; cases h
    | some y =>
      rw [hk] at h
      exact ⟨l, y, rfl, hk, h⟩
  | _ => cases h
theorem putD_tup {i : Nat} (hk : l[i]? = some y) : putD (.tup l) (i :: q) v = .tup (l.set i (putD y q v)) := by
  have e : l.getD i .non = y := by rw [List.getD_eq_getElem?_getD, hk]; rfl
  show D.tup (l.set i (putD (l.getD i .non) q v)) = _
  rw [e]
theorem PutC.tup (h : PutC C) : PutC (TupC n C) := by
  rintro d p i j ⟨l, rfl, h1, h2⟩ hg
  cases p with
  | nil => rw [getAt_nil] at hg; cases hg
  | cons k q =>
    obtain ⟨l', y, e, hk, hg⟩ := getAt_cons hg
    cases e
    rw [putD_tup hk]
    refine ⟨_, rfl, by rw [List.length_set]; exact h1, fun x hx => ?_⟩
    rcases List.mem_or_eq_of_mem_set hx with hx | rfl
    · exact h2 x hx
    · exact h y q i j (h2 y (List.mem_of_getElem? hk)) hg
theorem intC : PutC IntC := by
  rintro d p i j ⟨a, rfl⟩ hg
  cases p with
  | nil => exact ⟨j, putD_nil⟩
  | cons k q => cases hg
theorem rowC : PutC RowC := intC.tup
/-! what such data are -/
theorem map_of {α : Type} {f : α → D} : ∀ {l : List D}, (∀ x ∈ l, ∃ a, x = f a) → ∃ as : List α, l = as.map f
  | [], _ => ⟨[], rfl⟩
  | x :: l, h => by
    obtain ⟨a, rfl⟩ := h x (List.mem_cons_self ..)
    obtain ⟨as, rfl⟩ := map_of fun y hy => h y (List.mem_cons_of_mem _ hy)
    exact ⟨a :: as, rfl⟩
theorem RowC.ex (h : RowC d) : ∃ K : List Int, d = iD K ∧ K.length ≤ 1000 := by
  obtain ⟨l, rfl, h1, h2⟩ := h
  obtain ⟨K, rfl⟩ := map_of h2
  rw [List.length_map] at h1
  exact ⟨K, rfl, h1⟩
theorem RowC.of (h : K.length ≤ 1000) : RowC (iD K) := ⟨K.map D.int, rfl, by rw [List.length_map]; exact h, fun x hx => by
  obtain ⟨i, _, rfl⟩ := List.mem_map.mp hx
  exact ⟨i, rfl⟩⟩
theorem BoxC.ex (h : BoxC d) : ∃ S : List (List Int), d = RD S ∧ S.length ≤ 100 ∧ ∀ q ∈ S, q.length ≤ 1000 := by
  obtain ⟨l, rfl, h1, h2⟩ := h
  obtain ⟨S, rfl⟩ := map_of (f := fun z : {K : List Int // K.length ≤ 1000} => iD z.1) fun x hx => by
    obtain ⟨K, e, hl⟩ := (h2 x hx).ex
    exact ⟨⟨K, hl⟩, e⟩
  rw [List.length_map] at h1
  refine ⟨S.map (·.1), ?_, by rw [List.length_map]; exact h1, fun q hq => ?_⟩
  · show _ = D.tup ((S.map (·.1)).map iD)
    rw [List.map_map]
    rfl
  · obtain ⟨z, _, rfl⟩ := List.mem_map.mp hq
    exact z.2
theorem BoxC.of {S : List (List Int)} (h : S.length ≤ 100) (h2 : ∀ q ∈ S, q.length ≤ 1000) : BoxC (RD S) := ⟨S.map iD, rfl, by rw [List.length_map]; exact h, fun x hx => by
  obtain ⟨q, hq, rfl⟩ := List.mem_map.mp hx
  exact RowC.of (h2 q hq)⟩
theorem OptC.ex (h : OptC d) : ∃ o : Option (List Int), d = oIr o ∧ ∀ r, o = some r → r.length ≤ 1000 := by
  rcases h with rfl | h
  · exact ⟨none, rfl, fun r e => by cases e⟩
  · obtain ⟨K, rfl, hl⟩ := h.ex
    exact ⟨some K, rfl, fun r e => by cases e; exact hl⟩
theorem OptC.of {o : Option (List Int)} (h : ∀ r, o = some r → r.length ≤ 1000) : OptC (oIr o) := by
  cases o with
  | none => exact .inl rfl
  | some r => exact .inr (RowC.of (h r rfl))
theorem RowsC.ex (h : RowsC d) : ∃ R : List (Option (List Int)), d = .tup (R.map oIr) ∧ R.length ≤ 100 ∧ ∀ o ∈ R, ∀ r, o = some r → r.length ≤ 1000 := by
  obtain ⟨l, rfl, h1, h2⟩ := h
  obtain ⟨S, rfl⟩ := map_of (f := fun z : {o : Option (List Int) // ∀ r, o = some r → r.length ≤ 1000} => oIr z.1) fun x hx => by
    obtain ⟨o, e, hl⟩ := (h2 x hx).ex
    exact ⟨⟨o, hl⟩, e⟩
  rw [List.length_map] at h1
  refine ⟨S.map (·.1), ?_, by rw [List.length_map]; exact h1, fun q hq => ?_⟩
  · rw [List.map_map]
    rfl
  · obtain ⟨z, _, rfl⟩ := List.mem_map.mp hq
    exact z.2
theorem RowsC.of {R : List (Option (List Int))} (h : R.length ≤ 100) (h2 : ∀ o ∈ R, ∀ r, o = some r → r.length ≤ 1000) : RowsC (.tup (R.map oIr)) := ⟨R.map oIr, rfl, by rw [List.length_map]; exact h, fun x hx => by
  obtain ⟨q, hq, rfl⟩ := List.mem_map.mp hx
  exact OptC.of (h2 q hq)⟩
theorem PpC.ex (h : PpC d) : ∃ P : Pp, d = P.d ∧ P.fit := by
  obtain ⟨w, b, r, p, rfl, hw, hb, hr, x, y, rfl, hx, hy⟩ := h
  obtain ⟨S, rfl, s1, s2⟩ := hb.ex
  obtain ⟨R, rfl, r1, r2⟩ := hr.ex
  obtain ⟨X, rfl, x1⟩ := hx.ex
  obtain ⟨Y, rfl, y1⟩ := hy.ex
  exact ⟨⟨w, S, R, X, Y⟩, rfl, hw, s1, s2, r1, r2, x1, y1⟩
theorem PpC.of (h : P.fit) : PpC P.d := ⟨P.w, _, _, _, rfl, h.w, BoxC.of h.bl h.bs, RowsC.of h.rl h.rs, _, _, rfl, RowC.of h.al, RowC.of h.bl2⟩
end
end S

namespace S
open Z PySem PySem.Spec PyProof.Rows L2
/-! W96: a paper's near boxes; an integer spoilt in any plain datum. -/
section
variable {l : List D} {n : Nat} {t : List D}
theorem law_spoiltD_r (hd : DSl l) (hpl : (D.tup t).pl n = true) (hn : n ≤ 100) (hcn : cnD (.tup t) ≤ 5000)
    {Q : Cell × List Cell → Prop} (kk : ∀ (x : D) (l' : List D), DSl l' → (x = .tup t ∨ ∃ (p : List Nat) (i j : Int), getAt (.tup t) p = some (.int i) ∧ x = putD (.tup t) p (.int j)) → Q (⟨x, 0⟩, [⟨.lst l', 1⟩, ⟨.tup t, 0⟩])) : Ret (c__law_spoilt [⟨.lst l, 1⟩, ⟨.tup t, 0⟩]) Q := by
  obtain ⟨ps, h1, h2, h3⟩ := law_places_ok hpl (by omega)
  have hat : ∀ p ∈ ps, ∃ i, getAt (.tup t) p = some (.int i) ∧ c__law_at [⟨.tup t, 0⟩, ⟨nD p, 0⟩] = .ok (⟨.int i, 0⟩, [⟨.tup t, 0⟩, ⟨nD p, 0⟩]) ∧ (∀ v : D, c__law_put 120 [⟨.tup t, 0⟩, ⟨nD p, 0⟩, ⟨v, 0⟩] = .ok (⟨putD (.tup t) p v, 0⟩, [⟨.tup t, 0⟩, ⟨nD p, 0⟩, ⟨v, 0⟩])) := fun p hp => by
    obtain ⟨i, hi⟩ := h1 p hp
    have hlen := getAt_pl hi hpl
    refine ⟨i, hi, law_at_ok hi, fun v => ?_⟩
    have := law_put_D (v := v) (n := 119 - p.length) hi (by omega) (by omega)
    rw [show p.length + 1 + (119 - p.length) = 120 by omega] at this
    exact this
  generalize D.tup t = td at *
  by_cases hps : ps = []
  · subst hps
    simp (maxSteps := 2000000) -implicitDefEqProofs [-List.getD_eq_getElem?_getD, -own_cons, own_consB, ixT0, ixT1, ixT2, ixT3, ixT4, c__law_spoilt, m__law_spoilt, h3]
    exact kk _ _ hd (.inl rfl)
  · have htr : truth (.lst (ps.map nD)) = some true := by
      cases ps with
      | nil => exact absurd rfl hps
      | cons a r => rfl
    have hpos := List.length_pos_iff.mpr hps
    simp (maxSteps := 2000000) -implicitDefEqProofs [-List.getD_eq_getElem?_getD, -own_cons, own_consB, ixT0, ixT1, ixT2, ixT3, ixT4, c__law_spoilt, m__law_spoilt, h3, htr]
    refine pick_map (xs := ps) (f := nD) (by decide) hd (by omega) (by omega) fun p l2 hp h2' => ?_
    obtain ⟨i, a1, a2, a3⟩ := hat p hp
    simp (maxSteps := 2000000) -implicitDefEqProofs [-List.getD_eq_getElem?_getD, -own_cons, own_consB, ixT0, ixT1, ixT2, ixT3, ixT4, a2]
    have e1 : D.lst [.int 1, .int (-1), .int 2, .int 1, .int (-2)] = .lst (([1, -1, 2, 1, -2] : List Int).map D.int) := rfl
    rw [e1]
    refine pick_map (xs := ([1, -1, 2, 1, -2] : List Int)) (f := D.int) (by decide) h2' (by decide) (by decide) fun j l3 hj h3' => ?_
    simp (maxSteps := 2000000) -implicitDefEqProofs [-List.getD_eq_getElem?_getD, -own_cons, own_consB, ixT0, ixT1, ixT2, ixT3, ixT4, a3]
    exact kk _ _ h3' (.inr ⟨p, i, _, a1, rfl⟩)
end
structure Pp.small (P : Pp) : Prop where
  w : D.okd.strOk P.w = true
  bl : P.box.length ≤ 4
  bs : ∀ q ∈ P.box, q.length ≤ 8
  rl : P.rows.length ≤ 4
  rs : ∀ o ∈ P.rows, ∀ r, o = some r → r.length ≤ 8
  al : P.a.length ≤ 8
  bl2 : P.b.length ≤ 8
section
variable {c : Clk} {sizes : List Nat} {p : Nat} {b : Box} {l Kd L : List D} {P : Pp} {v x : D} {K : List Int} {q : List Nat}
theorem Pp.small.fit (h : P.small) : P.fit := ⟨h.w, by have := h.bl; omega, fun q hq => by have := h.bs q hq; omega, by have := h.rl; omega, fun o ho r e => by have := h.rs o ho r e; omega, by have := h.al; omega, by have := h.bl2; omega⟩
theorem cn_iD : cnD (iD K) = K.length + 1 := by
  show cnL (K.map D.int) + 1 = _
  have : ∀ K : List Int, cnL (K.map D.int) = K.length := fun K => by
    induction K with
    | nil => rfl
    | cons a K ih =>
      rw [List.map_cons, cnL, ih, List.length_cons, show cnD (D.int a) = 1 from rfl]
      omega
  rw [this]
theorem cnL_le {m : Nat} : ∀ {l : List D}, (∀ x ∈ l, cnD x ≤ m) → cnL l ≤ m * l.length
  | [], _ => Nat.zero_le _
  | a :: l, h => by
    have h1 := h a (List.mem_cons_self ..)
    have h2 := cnL_le fun x hx => h x (List.mem_cons_of_mem _ hx)
    rw [cnL, List.length_cons, Nat.mul_succ]
    omega
theorem Pp.small.cn (h : P.small) : cnD P.d ≤ 200 := by
  have h1 : cnL (P.box.map iD) ≤ 9 * (P.box.map iD).length := cnL_le fun x hx => by
    obtain ⟨q, hq, rfl⟩ := List.mem_map.mp hx
    rw [cn_iD]
    have := h.bs q hq
    omega
  have h2 : cnL (P.rows.map oIr) ≤ 9 * (P.rows.map oIr).length := cnL_le fun x hx => by
    obtain ⟨o, ho, rfl⟩ := List.mem_map.mp hx
    cases o with
    | none => show (1 : Nat) ≤ 9; omega
    | some r =>
      have := h.rs _ ho r rfl
      show cnD (iD r) ≤ 9
      rw [cn_iD]
      omega
  rw [List.length_map] at h1 h2
  have h3 := h.bl
  have h4 := h.rl
  have h5 := h.al
  have h6 := h.bl2
  show 1 + ((cnL (P.box.map iD) + 1) + ((cnL (P.rows.map oIr) + 1) + ((cnD (iD P.a) + (cnD (iD P.b) + 0) + 1) + 0))) + 1 ≤ 200
  rw [cn_iD, cn_iD]
  omega
theorem iD_plN {n : Nat} : (iD K).pl (n + 1) = true := by
  show (D.tup (K.map D.int)).pl (n + 1) = true
  rw [D.pl, List.all_eq_true]
  intro d hd
  obtain ⟨z, _, rfl⟩ := List.mem_map.mp hd
  cases n <;> rfl
theorem Pp.small.pl (h : P.small) : P.d.pl 3 = true := by
  have h1 : (RD P.box).pl 2 = true := by
    show (D.tup (P.box.map iD)).pl 2 = true
    rw [D.pl, List.all_eq_true]
    intro d hd
    obtain ⟨z, _, rfl⟩ := List.mem_map.mp hd
    exact iD_plN
  have h2 : (D.tup (P.rows.map oIr)).pl 2 = true := by
    rw [D.pl, List.all_eq_true]
    intro d hd
    obtain ⟨z, _, rfl⟩ := List.mem_map.mp hd
    cases z with
    | none => rfl
    | some r => exact iD_plN
  show (D.okd.strOk P.w && ((RD P.box).pl 2 && ((D.tup (P.rows.map oIr)).pl 2 && (((iD P.a).pl 1 && ((iD P.b).pl 1 && true)) && true)))) = true
  rw [h.w, h1, h2, iD_plN, iD_plN]
  rfl
theorem RowC.mk (h : ∀ x ∈ L, IntC x) (hl : L.length ≤ 1000) : RowC (.tup L) := ⟨L, rfl, hl, h⟩
theorem IntC.i {i : Int} : IntC (.int i) := ⟨i, rfl⟩
theorem nL_int {ks : List Nat} : ∀ x ∈ nL ks, IntC x := fun x hx => by
  obtain ⟨i, _, rfl⟩ := List.mem_map.mp hx
  exact ⟨_, rfl⟩
end
end S

namespace S
open Z PySem PySem.Spec PyProof.Rows L2
/-! W97: rows near those that a paper shows. -/
def rD (rows : List Row) : D := .lst (rows.map nD)
section
variable {c : Clk} {sizes : List Nat} {p : Nat} {b : Box} {l Kd L : List D} {P : Pp} {v x : D} {K : List Int} {q : List Nat} {s : List (List Row)} {r : Row} {W : List Row} {n : Nat}
theorem addT {a b : List D} {k k' : Nat} (h : a.length + b.length ≤ 10000) : fAdd [⟨.tup a, k⟩, ⟨.tup b, k'⟩] = .ok ⟨.tup (a ++ b), 0⟩ := by
  refine Ret.eq ?_
  simp (maxSteps := 2000000) -implicitDefEqProofs [-List.getD_eq_getElem?_getD, -own_cons, own_consB, ixT0, ixT1, ixT2, ixT3, ixT4]
  omega
structure Menus (W : List Row) (n : Nat) (s : List (List Row)) : Prop where
  l : s.length = 4
  h : ∀ rows ∈ s, rows.length ≤ n ∧ ∀ r ∈ rows, r ∈ W
theorem Menus.next (h : Menus W n s) : Menus W (n + 1) s := ⟨h.l, fun rows hr => ⟨by have := (h.h rows hr).1; omega, (h.h rows hr).2⟩⟩
theorem Menus.grow (h : Menus W n s) {j : Nat} (hj : j < 4) (hr : r ∈ W) : Menus W (n + 1) (s.set j (s.getD j [] ++ [r])) := by
  have hl := h.l
  have hm := h.h (s.getD j []) (by rw [getD_of_lt (by omega)]; exact List.getElem_mem _)
  refine ⟨by rw [List.length_set]; exact hl, fun rows hx => ?_⟩
  rcases List.mem_or_eq_of_mem_set hx with hx | rfl
  · exact (h.next.h rows hx)
  · refine ⟨by rw [List.length_append, List.length_singleton]; omega, fun z hz => ?_⟩
    rcases List.mem_append.mp hz with hz | hz
    · exact hm.2 z hz
    · rw [List.mem_singleton.mp hz]
      exact hr
end
end S

namespace S
open Z PySem PySem.Spec PyProof.Rows L2
/-! W98: papers near a planted one: what they show. -/
def plP (b : Box) (rs : List (Option Row)) (r0 r1 : Row) : Pp := ⟨"still", bI b, rs.map (Option.map upI), upI r0, upI r1⟩
structure PlOk (c : Clk) (sizes : List Nat) (b : Box) (rs : List (Option Row)) (r0 r1 : Row) : Prop where
  q : CB c sizes b
  l : rs.length = b.length
  rs : ∀ p, p < b.length → ∀ r, rs.getD p none = some r → r ∈ prodL b
  m0 : r0 ∈ prodL b
  m1 : r1 ∈ prodL b
  w : c.win sizes r1 ≠ c.win sizes r0
section
variable {c : Clk} {sizes : List Nat} {p : Nat} {b : Box} {l Kd L : List D} {P : Pp} {v x : D} {K : List Int} {q : List Nat} {rs : List (Option Row)} {r0 r1 r : Row} {n : Nat}
theorem still_okd : D.okd.strOk ("still" : Str) = true := by decide +kernel
theorem PlOk.len (o : PlOk c sizes b rs r0 r1) (hr : r ∈ prodL b) : r.length = b.length := (row_in hr).1
theorem PlOk.small (o : PlOk c sizes b rs r0 r1) : (plP b rs r0 r1).small := by
  have h4 := o.q.good.b4
  have hrl := o.l
  have h0 := o.len o.m0
  have h1 := o.len o.m1
  refine ⟨still_okd, by show (b.map upI).length ≤ 4; rw [List.length_map]; exact h4, fun q hq => ?_, by show (rs.map _).length ≤ 4; rw [List.length_map]; omega, fun x hx r e => ?_, by show (upI r0).length ≤ 8; rw [up_len]; omega, by show (upI r1).length ≤ 8; rw [up_len]; omega⟩
  · obtain ⟨z, hz, rfl⟩ := List.mem_map.mp hq
    rw [up_len]
    exact o.q.good.l8 z hz
  · obtain ⟨z, hz, rfl⟩ := List.mem_map.mp hx
    cases z with
    | none => cases e
    | some y =>
      cases e
      obtain ⟨i, hi, e⟩ := List.mem_iff_getElem.mp hz
      have := o.len (o.rs i (by omega) y (by rw [getD_of_lt hi, e]))
      rw [up_len]
      omega
theorem sl_m1 {l : List D} (h : 1 ≤ l.length) : fSl ⟨.tup l, 0⟩ none (some (-1)) = .ok ⟨.tup (l.take (l.length - 1)), 0⟩ := by
  show Z.R.ok (Cell.fz (.tup (cutD _ _ _))) = _
  rw [cutD_toN h]
  rfl
end
end S

namespace S
open Z PySem PySem.Spec PyProof.Rows L2
/-! W99: pairs near those of a paper; all near papers. -/
section
variable {c : Clk} {sizes : List Nat} {p : Nat} {b : Box} {l Kd L : List D} {P : Pp} {v x : D} {K : List Int} {q : List Nat} {rs : List (Option Row)} {r0 r1 r : Row} {n : Nat} {rows : List Row}
end
end S

namespace S
open Z PySem PySem.Spec PyProof.Rows L2
/-! W100: one row's winners are changed; all near papers. -/
section
variable {c : Clk} {sizes : List Nat} {p : Nat} {b : Box} {l Kd L : List D} {P : Pp} {v : D} {rs : List (Option Row)} {r0 r1 r x y : Row} {n : Nat} {rows : List Row}
structure OneOk (c c' : Clk) (sizes : List Nat) (p : Nat) (x : Row) (g : Bool) : Prop where
  ok : ClkOk c' sizes
  ps : c'.persons = c.persons
  ne : ∀ o r, o ≠ p → (o ∈ c'.win sizes r ↔ o ∈ c.win sizes r)
  eq : p ∈ c'.win sizes x ↔ g = true
  rw : ∀ r, RowOk sizes r → r ≠ x → c'.win sizes r = c.win sizes r
end
end S

namespace S
open Z PySem PySem.Spec PyProof.Rows L2
/-! W101: a planted still box. -/
section
variable {c c' : Clk} {sizes : List Nat} {p o : Nat} {b : Box} {l Kd L : List D} {rs : List (Option Row)} {r x y : Row} {n : Nat} {g : Bool}
def Shown (c : Clk) (sizes : List Nat) (b : Box) (rs : List (Option Row)) (n : Nat) : Prop := ∀ p, p < n → (1 < (b.getD p []).length → ∃ r, rs.getD p none = some r ∧ r ∈ prodL b ∧ c.shows sizes b p r = true) ∧ (¬ 1 < (b.getD p []).length → rs.getD p none = none)
theorem up_ps (h : c'.persons = c.persons) : c'.up p = c.up p := by unfold Clk.up; rw [h]
theorem outK_ps (h : c'.persons = c.persons) : c'.outK b p = c.outK b p := by unfold Clk.outK; rw [up_ps h]
theorem OneOk.shows (h : OneOk c c' sizes p x g) (ho : o ≠ p) : c'.shows sizes b o r = c.shows sizes b o r := by
  unfold Clk.shows
  rw [outK_ps h.ps, up_ps h.ps, decide_eq_decide.mpr (h.ne o r ho)]
theorem Shown.put (hs : Shown c sizes b rs n) (h : OneOk c c' sizes n x g) (hl : rs.length = n) (hx : x ∈ prodL b) (hg : g = c.up n) (hk : x.getD n 0 = c.outK b n) (h1 : 1 < (b.getD n []).length) : Shown c' sizes b (rs ++ [some x]) (n + 1) := fun p hp => by
  by_cases e : p = n
  · subst e
    have ex : (rs ++ [some x]).getD p none = some x := by rw [← hl]; simp
    refine ⟨fun _ => ⟨x, ex, hx, ?_⟩, fun h => absurd h1 h⟩
    have e5 : decide (p ∈ c'.win sizes x) = c.up p := by
      by_cases hm : p ∈ c'.win sizes x
      · rw [decide_eq_true hm, ← hg, h.eq.mp hm]
      · rw [decide_eq_false hm, ← hg]
        cases g with
        | false => rfl
        | true => exact absurd (h.eq.mpr rfl) hm
    unfold Clk.shows
    rw [outK_ps h.ps, up_ps h.ps, hk, decide_eq_true rfl, Bool.true_and, e5]
    cases c.up p <;> rfl
  · have hlt : p < rs.length := by omega
    have ex : (rs ++ [some x]).getD p none = rs.getD p none := by
      rw [List.getD_eq_getElem?_getD, List.getElem?_append_left hlt, ← List.getD_eq_getElem?_getD]
    obtain ⟨h2, h3⟩ := hs p (by omega)
    rw [ex]
    refine ⟨fun hh => ?_, h3⟩
    obtain ⟨r, e1, e2, e3⟩ := h2 hh
    exact ⟨r, e1, e2, by rw [h.shows e]; exact e3⟩
end
end S

namespace S
open Z PySem PySem.Spec PyProof.Rows L2
/-! W102: the walk of _law_planted. -/
section
variable {c c' : Clk} {sizes : List Nat} {p o : Nat} {b : Box} {l Kd L : List D} {rs : List (Option Row)} {r x y : Row} {n : Nat} {g : Bool}
end
end S

namespace S
open Z PySem PySem.Spec PyProof.Rows L2
/-! W103: the sizes of k88; the planted paper and the verdict are right. -/
section
theorem law_sizes_m {l : List D} {lim : Nat} (h : DSl l) (hl : 1 ≤ lim) (hl2 : lim ≤ 256) : ∃ (s : List Nat) (l' : List D), c__law_sizes [⟨.lst l, 1⟩, ⟨.int (lim : Int), 0⟩] = .ok (⟨nD s, 0⟩, [⟨.lst l', 1⟩, ⟨.int (lim : Int), 0⟩]) ∧ DSl l' ∧ s ∈ menu := by
  have inner : ∀ (s : List Nat) (c0 c2 c3 c4 c6 : Option Cell), (∀ x ∈ s, x ≤ 8) → ∃ c6', loopF ⟨nL s, none⟩ (gN 6) b__law_sizes_1 [2, 0] (nL s) [c0, iC lim, c2, c3, c4, some ⟨.int 1, 0⟩, c6] = .ok (.next, [c0, iC lim, c2, c3, c4, iC (rowsN s), c6']) := by
    intro s c0 c2 c3 c4 c6 hs
    obtain ⟨e, _⟩ := for_fold (it := ⟨nL s, none⟩) (g := gN 6) (body := b__law_sizes_1) (L := [2, 0]) (ds := s) (s := ((1 : Nat), c6)) (fun (i : Nat) => D.int (i : Int)) (fun s => [c0, iC lim, c2, c3, c4, iC s.1, s.2])
      (fun s x => (s.1 * x, iC x)) (fun r _ => ∀ x ∈ r, x ≤ 8) hs (fun a r s hr => by
        have ha := hr a (List.mem_cons_self ..)
        refine ⟨?_, fun x hx => hr x (List.mem_cons_of_mem _ hx)⟩
        simp -implicitDefEqProofs [step1, b__law_sizes_1, p_mulR (i := (s.1 : Int)) (j := (a : Int)) ⟨by omega, by omega⟩])
    have e2 : ∀ (l : List Nat) (s : Nat × Option Cell), (l.foldl (fun (s : Nat × Option Cell) x => (s.1 * x, iC x)) s).1 = l.foldl (· * ·) s.1 := by
      intro l
      induction l with
      | nil => intro s; rfl
      | cons a r ih => intro s; rw [List.foldl_cons, List.foldl_cons, ih]
    rw [e2, foldl_mul] at e
    dsimp only at e
    rw [Nat.one_mul] at e
    exact ⟨_, e⟩
  obtain ⟨s', e, done, h1, h2⟩ := for_rel (it := ⟨menu.map nD, some 2⟩) (g := gN 4) (body := b__law_sizes_2) (L := [2, 0]) (ds := menu) (s := ([], none, none, none)) nD (fun s : List (List Nat) × Option Cell × Option Cell × Option Cell => [some ⟨.lst l, 1⟩, iC lim, some ⟨.lst (menu.map nD), 1⟩, some ⟨.lst (s.1.map nD), 1⟩, s.2.1, s.2.2.1, s.2.2.2])
    (fun rest s => ∃ done, menu = done ++ rest ∧ s.1 = done.filter fun s => decide (rowsN s ≤ lim)) ⟨[], rfl, rfl⟩ (fun a r s ⟨done, h1, h2⟩ => by
      have ha := (menu_ok a (by rw [h1]; simp)).1
      obtain ⟨c6', e⟩ := inner a (some ⟨.lst l, 1⟩) (some ⟨.lst (menu.map nD), 1⟩) (some ⟨.lst (s.1.map nD), 1⟩) (some ⟨nD a, 0⟩) s.2.2.2 (fun x hx => (ha.s x hx).2)
      have hlen : (s.1.map nD).length ≤ 10000 := by
        have h3 : done.length ≤ menu.length := by rw [h1]; simp
        have h4 : menu.length = 31 := rfl
        have h5 : s.1.length ≤ done.length := by rw [h2]; exact List.length_filter_le ..
        simp; omega
      by_cases hc : rowsN a ≤ lim
      · refine ⟨(s.1 ++ [a], some ⟨nD a, 0⟩, iC (rowsN a), c6'), ?_, done ++ [a], by simp [h1], by simp [h2, hc, List.filter_append]⟩
        have hc' : (rowsN a : Int) ≤ lim := by omega
        simp (maxSteps := 1000000) -implicitDefEqProofs [step1, b__law_sizes_2, e, hc, f_app hlen]
      · refine ⟨(s.1, some ⟨nD a, 0⟩, iC (rowsN a), c6'), ?_, done ++ [a], by simp [h1], by simp [h2, hc, List.filter_append]⟩
        have hc' : ¬ (rowsN a : Int) ≤ lim := by omega
        simp (maxSteps := 1000000) -implicitDefEqProofs [step1, b__law_sizes_2, e, hc])
  rw [List.append_nil] at h1
  subst h1
  generalize hfd : s'.1 = fd at *
  have hne : 0 < fd.length := by
    have : [1] ∈ fd := by
      rw [h2, List.mem_filter]
      exact ⟨by decide, by rw [decide_eq_true_eq]; exact Nat.le_trans (by decide) hl⟩
    exact List.length_pos_of_mem this
  have hlen : fd.length ≤ 31 := by
    rw [h2]
    exact Nat.le_trans (List.length_filter_le ..) (by decide)
  have hp := pickL_s (l := l) (row := fd.map nD) (k := 1) (by decide) h (by simpa using hne) (by simp; omega)
  have hn := dN_ltN (l := l) (m := fd.length) h hne (by omega)
  rw [List.length_map] at hp
  have hg : (fd.map nD).getD (dN l (fd.length : Nat)) .non = nD (fd.getD (dN l (fd.length : Nat)) []) := by simp [List.getElem?_eq_getElem hn]
  have hmem : fd.getD (dN l (fd.length : Nat)) [] ∈ fd := by simp [List.getElem?_eq_getElem hn]
  rw [hg] at hp
  have hm2 : fd.getD (dN l (fd.length : Nat)) [] ∈ menu ∧ rowsN (fd.getD (dN l (fd.length : Nat)) []) ≤ lim := by
    have h3 : ∀ x ∈ fd, x ∈ menu ∧ rowsN x ≤ lim := fun x hx => by
      rw [h2] at hx
      exact ⟨(List.mem_filter.mp hx).1, of_decide_eq_true (List.mem_filter.mp hx).2⟩
    exact h3 _ hmem
  refine ⟨fd.getD (dN l (fd.length : Nat)) [], dL l (fd.length : Nat), ?_, h.d, hm2.1⟩
  · have hm : ([D.tup [.int 2, .int 2], .tup [.int 3, .int 2], .tup [.int 2, .int 2, .int 2], .tup [.int 2, .int 3], .tup [.int 3, .int 3], .tup [.int 1, .int 3], .tup [.int 2, .int 1, .int 2], .tup [.int 4, .int 2], .tup [.int 3], .tup [.int 2, .int 3, .int 2], .tup [.int 1], .tup [.int 2, .int 5],
        .tup [.int 3, .int 4], .tup [.int 2, .int 2, .int 3], .tup [.int 1, .int 1], .tup [.int 2, .int 2, .int 2, .int 2], .tup [.int 6, .int 2], .tup [.int 3, .int 2, .int 3], .tup [.int 4, .int 4], .tup [.int 8, .int 2], .tup [.int 1, .int 2, .int 1, .int 3],
        .tup [.int 3, .int 3, .int 2], .tup [.int 3, .int 3, .int 3], .tup [.int 2, .int 8], .tup [.int 4, .int 2, .int 3], .tup [.int 5, .int 5], .tup [.int 2, .int 2, .int 2, .int 4], .tup [.int 8, .int 3], .tup [.int 4, .int 3, .int 3], .tup [.int 8, .int 8], .tup [.int 4, .int 4, .int 4]] : List D) = menu.map nD := rfl
    dsimp only at e
    have e0 : ([] : List (List Nat)).map nD = [] := rfl
    rw [e0] at e
    simp (maxSteps := 1000000) -implicitDefEqProofs [-List.getD_eq_getElem?_getD, c__law_sizes, m__law_sizes, f_addL, hm, e, hp]
end
section
variable {c c' : Clk} {sizes : List Nat} {p o : Nat} {b S : Box} {l Kd L : List D} {rs : List (Option Row)} {r r0 r1 x y : Row} {n : Nat} {g : Bool}
end
end S

namespace S
open Z PySem PySem.Spec PyProof.Rows L2
/-! W104: strategies (k36): pairs of a path and a branch; the program's judge. -/
abbrev St36 := List (List Int × Int)
def pr36D (x : List Int × Int) : D := .tup [iD x.1, .int x.2]
def stD (s : St36) : D := .tup (s.map pr36D)
abbrev Own36 := List (List Nat × Nat)
def ownD (x : List Nat × Nat) : D := .tup [nD x.1, .int (x.2 : Nat)]
def Cons36 (O : Own36) : Prop := ∀ x ∈ O, ∀ y ∈ O, x.1 = y.1 → x.2 = y.2
def manyO (O : Own36) (p : List Int) : Option Nat := (O.find? fun x => decide (upI x.1 = p)).map (·.2)
def okB (O : Own36) (x : List Int × Int) : Bool := match manyO O x.1 with
  | some m => decide (0 ≤ x.2 ∧ x.2 < (m : Int))
  | none => false
def ascF : Option (List Int) → List (List Int) → Bool
  | _, [] => true
  | none, x :: r => ascF (some x) r
  | some l, x :: r => !lexB x l && ascF (some x) r
def ascS (ps : List (List Int)) : Bool := (List.range (ps.length - 1)).all fun k => !lexB (ps.getD (k + 1) []) (ps.getD k [])
def judS (O : Own36) (s : St36) : Bool := ascF none (s.map (·.1)) && s.all (okB O)
section
variable {O : Own36} {s : St36} {p : List Int} {x : List Nat × Nat} {q : List Nat} {h z : Hr} {b : Box} {k k' : Nat}
theorem ascS_eq : ∀ {ps : List (List Int)}, ascS ps = ascF none ps
  | [] => rfl
  | [x] => rfl
  | x :: y :: r => by
    have ih := ascS_eq (ps := y :: r)
    have e1 : ascF none (x :: y :: r) = (!lexB y x && ascF none (y :: r)) := rfl
    rw [e1, ← ih]
    unfold ascS
    show ((List.range (r.length + 1)).all fun k => !lexB ((x :: y :: r).getD (k + 1) []) ((x :: y :: r).getD k [])) = _
    rw [List.range_succ_eq_map, List.all_cons, List.all_map]
    rfl
theorem tk_iD {K : List Int} : (iD K).tk = true := by
  show (D.tup (K.map D.int)).tk = true
  unfold D.tk
  rw [List.all_eq_true]
  intro d hd
  obtain ⟨i, _, rfl⟩ := List.mem_map.mp hd
  rfl
theorem iD_injE {K L : List Int} : iD K = iD L ↔ K = L := by
  constructor
  · intro e
    have e : D.tup (K.map D.int) = D.tup (L.map D.int) := e
    have e2 : K.map D.int = L.map D.int := by injection e
    exact (List.map_inj_right (fun a b e => by injection e)).mp e2
  · rintro rfl; rfl
theorem manyO_some {m : Nat} (hc : Cons36 O) (h : (q, m) ∈ O) : manyO O (upI q) = some m := by
  unfold manyO
  cases e : O.find? fun x => decide (upI x.1 = upI q) with
  | none =>
    have := List.find?_eq_none.mp e _ h
    simp at this
  | some y =>
    have h1 := List.mem_of_find?_eq_some e
    have h2 := of_decide_eq_true (List.find?_some (p := fun x : List Nat × Nat => decide (upI x.1 = upI q)) e)
    have : y.1 = q := by rw [← toR_up (q := y.1), h2, toR_up]
    show some y.2 = some m
    rw [hc y h1 (q, m) h this]
theorem manyO_none (h : ∀ x ∈ O, upI x.1 ≠ p) : manyO O p = none := by
  unfold manyO
  rw [List.find?_eq_none.mpr fun x hx => by simp [h x hx]]
  rfl
theorem manyO_cases (hc : Cons36 O) (p : List Int) : (∃ q m, (q, m) ∈ O ∧ upI q = p ∧ manyO O p = some m) ∨ ((∀ x ∈ O, upI x.1 ≠ p) ∧ manyO O p = none) := by
  by_cases h : ∃ x ∈ O, upI x.1 = p
  · obtain ⟨⟨q, m⟩, hx, rfl⟩ := h
    exact .inl ⟨q, m, hx, rfl, manyO_some hc hx⟩
  · have h' : ∀ x ∈ O, upI x.1 ≠ p := fun x hx e => h ⟨x, hx, e⟩
    exact .inr ⟨h', manyO_none h'⟩
/-! the dict of the choices -/
theorem dGet_put : ∀ {ks ds : List D} {q q' v : D}, ks.length = ds.length → dGet (dPutK ks q) (dPutV ks ds q v) q' = if q' = q then some v else dGet ks ds q' := by
  intro ks
  have old : ∀ {ks ds : List D} {q q' v : D}, ks.length = ds.length → dGet ks (List.zipWith (fun k d => if k = q then v else d) ks ds) q' = if q' = q ∧ q ∈ ks then some v else dGet ks ds q' := by
    intro ks
    induction ks with
    | nil =>
      intro ds q q' v _
      have : ¬ (q' = q ∧ q ∈ ([] : List D)) := fun h => by cases h.2
      rw [if_neg this]
      cases ds <;> rfl
    | cons k ks ih =>
      intro ds q q' v hl
      cases ds with
      | nil => simp at hl
      | cons d ds =>
        rw [List.zipWith_cons_cons, dGet, dGet, ih (by simpa using hl)]
        by_cases e : k = q'
        · subst e
          rw [if_pos rfl, if_pos rfl]
          by_cases e2 : k = q
          · subst e2
            rw [if_pos rfl, if_pos ⟨rfl, List.mem_cons_self ..⟩]
          · rw [if_neg e2, if_neg fun h => e2 h.1]
        · rw [if_neg e, if_neg e]
          by_cases e2 : q' = q ∧ q ∈ ks
          · rw [if_pos e2, if_pos ⟨e2.1, List.mem_cons_of_mem _ e2.2⟩]
          · rw [if_neg e2, if_neg fun h => ?_]
            rcases List.mem_cons.mp h.2 with h2 | h2
            · exact e (by rw [h.1, h2])
            · exact e2 ⟨h.1, h2⟩
  intro ds q q' v hl
  unfold dPutK dPutV
  by_cases h : q ∈ ks
  · rw [if_pos h, if_pos h, old hl]
    by_cases e : q' = q
    · rw [if_pos ⟨e, h⟩, if_pos e]
    · rw [if_neg fun z => e z.1, if_neg e]
  · rw [if_neg h, if_neg h]
    have app : ∀ {ks ds : List D}, ks.length = ds.length → q ∉ ks → dGet (ks ++ [q]) (ds ++ [v]) q' = if q' = q then some v else dGet ks ds q' := by
      intro ks
      induction ks with
      | nil =>
        intro ds hl _
        cases ds with
        | nil =>
          show (if q = q' then some v else none) = _
          by_cases e : q' = q
          · rw [if_pos e, if_pos e.symm]
          · rw [if_neg e, if_neg fun z => e z.symm]
            rfl
        | cons _ _ => simp at hl
      | cons k ks ih =>
        intro ds hl hn
        cases ds with
        | nil => simp at hl
        | cons d ds =>
          rw [List.cons_append, List.cons_append, dGet, dGet, ih (by simpa using hl) fun z => hn (List.mem_cons_of_mem _ z)]
          by_cases e : k = q'
          · subst e
            rw [if_pos rfl, if_pos rfl, if_neg fun z => hn (by rw [z]; exact List.mem_cons_self ..)]
          · rw [if_neg e, if_neg e]
    exact app hl h
structure Dc36 (O : Own36) (ks ds : List D) : Prop where
  l : ks.length = ds.length
  tk : ks.all D.tk = true
  n : ks.length ≤ O.length
  k : ∀ q, q ∈ ks ↔ ∃ x ∈ O, nD x.1 = q
  g : ∀ x ∈ O, dGet ks ds (nD x.1) = some (.int (x.2 : Nat))
theorem Dc36.put {ks ds : List D} (h : Dc36 O ks ds) (hc : Cons36 (O ++ [x])) : Dc36 (O ++ [x]) (dPutK ks (nD x.1)) (dPutV ks ds (nD x.1) (.int (x.2 : Nat))) := by
  obtain ⟨h1, h2, h3, h4, h5, h6⟩ := dput_inv (K := fun q => q.tk = true ∧ ∃ y ∈ O ++ [x], nD y.1 = q) (V := fun _ => True) h.l (fun q hq => ⟨List.all_eq_true.mp h.tk q hq, by
    obtain ⟨y, hy, e⟩ := (h.k q).mp hq
    exact ⟨y, List.mem_append_left _ hy, e⟩⟩) (fun _ _ => trivial) ⟨tk_nD, x, by simp, rfl⟩ (v := .int (x.2 : Nat)) trivial
  refine ⟨h1, List.all_eq_true.mpr fun q hq => (h2 q hq).1, by rw [List.length_append, List.length_singleton]; have := h.n; omega, fun q => ⟨fun hq => (h2 q hq).2, fun ⟨y, hy, e⟩ => ?_⟩, fun y hy => ?_⟩
  · subst e
    rcases List.mem_append.mp hy with hy | hy
    · exact h5 _ ((h.k _).mpr ⟨y, hy, rfl⟩)
    · rw [List.mem_singleton.mp hy]
      exact h4
  · rw [dGet_put h.l]
    by_cases e : nD y.1 = nD x.1
    · rw [if_pos e]
      rw [nD_inj] at e
      rw [hc y hy x (by simp) e]
    · rw [if_neg e]
      rcases List.mem_append.mp hy with hy | hy
      · exact h.g y hy
      · rw [List.mem_singleton.mp hy] at e
        exact absurd rfl e
/-! the program's judge -/
theorem are_ascending_ok {ps : List (List Int)} (hl : ps.length ≤ 10000) : c_are_ascending [⟨.lst (ps.map iD), 1⟩] = .ok (⟨.bl (ascF none ps), 0⟩, [⟨.lst (ps.map iD), 1⟩]) := by
  have elen : fLen [⟨.lst (ps.map iD), 1⟩] = .ok ⟨.int (ps.length : Nat), 0⟩ := by
    show Z.R.ok (Cell.fz (.int ((ps.map iD).length : Nat))) = _
    rw [List.length_map]
    rfl
  have hix : ∀ i, i < ps.length → fIx [⟨.lst (ps.map iD), 1⟩, ⟨.int (i : Int), 0⟩] = .ok ⟨iD (ps.getD i []), 0⟩ := fun i hi => ixL (by decide) (by rw [List.getElem?_map, List.getElem?_eq_getElem hi, getD_of_lt hi]; rfl)
  have erg : rgD 1 (ps.length : Int) = (List.range (ps.length - 1)).map fun (i : Nat) => D.int (1 + (i : Int)) := by
    unfold rgD
    rw [show ((ps.length : Int) - 1).toNat = ps.length - 1 by omega]
  have erb : rgB 1 (ps.length : Int) = true := by
    unfold rgB
    simp
    omega
  have hge : ∀ (a b : List Int), fGeT [⟨iD a, 0⟩, ⟨iD b, 0⟩] = .ok ⟨.bl (lexB b a), 0⟩ := fun a b => geT_tup
  rw [← ascS_eq]
  generalize D.lst (ps.map iD) = pd at *
  refine Ret.eq ?_
  simp (maxSteps := 2000000) -implicitDefEqProofs [-List.getD_eq_getElem?_getD, -own_cons, own_consB, ixT0, ixT1, ixT2, ixT3, ixT4, c_are_ascending, m_are_ascending, elen, erg, erb]
  refine Ret_search (List.range (ps.length - 1)) (fun (i : Nat) => D.int (1 + (i : Int))) [1] (fun i => if lexB (ps.getD (i + 1) []) (ps.getD i []) then some (⟨.bl false, 0⟩ : Cell) else none) rfl (fun i jj hi => ?_) fun jj => ?_
  · have hi := List.mem_range.mp hi
    have e0 := hix i (by omega)
    have e1 := hix (i + 1) (by omega)
    rw [show ((i + 1 : Nat) : Int) = 1 + (i : Int) by omega] at e1
    have e2 : (1 : Int) + (i : Int) - 1 = (i : Int) := by omega
    cases hc : lexB (ps.getD (i + 1) []) (ps.getD i []) <;> simp (maxSteps := 2000000) -implicitDefEqProofs [-List.getD_eq_getElem?_getD, -own_cons, own_consB, ixT0, ixT1, ixT2, ixT3, ixT4, step1, b_are_ascending_1, e2, e0, e1, hge, hc]
  · rw [some_any]
    have ha : ascS ps = !(List.range (ps.length - 1)).any fun i => lexB (ps.getD (i + 1) []) (ps.getD i []) := by
      unfold ascS
      rw [List.not_any_eq_all_not]
    rw [ha]
    cases (List.range (ps.length - 1)).any fun i => lexB (ps.getD (i + 1) []) (ps.getD i []) <;> simp (maxSteps := 2000000) -implicitDefEqProofs [-List.getD_eq_getElem?_getD, -own_cons, own_consB, ixT0, ixT1, ixT2, ixT3, ixT4]
end
end S

namespace S
open Z PySem PySem.Spec PyProof.Rows L2
/-! W105: strategies: are_choices, _law_judged. -/
section
variable {O : Own36} {s : St36} {p : List Int} {x : List Nat × Nat} {q : List Nat} {h z : Hr} {b : Box} {k k' : Nat}
theorem Ret_dcO {it : ItD} {g : MG} {tt : MT} {mk mv : AE} {vs : List Nat} {ρ : Z.Env} {Q : (List D × List D) × Z.Env → Prop} (hc : Cons36 O) (hl : O.length ≤ 10000)
    (hs : ∀ x ∈ O, ∀ (r ks ds : List D), loopDC it g tt mk mv vs (ownD x :: r) ks ds ρ = if ks.length < 16777216 then loopDC it g tt mk mv vs r (dPutK ks (nD x.1)) (dPutV ks ds (nD x.1) (.int (x.2 : Nat))) ρ else .bad)
    (k : ∀ ks ds, Dc36 O ks ds → Q ((ks, ds), ρ)) : Ret (loopDC it g tt mk mv vs (O.map ownD) [] [] ρ) Q := by
  have key : ∀ (rest done : Own36) (ks ds : List D), O = done ++ rest → Dc36 done ks ds → Ret (loopDC it g tt mk mv vs (rest.map ownD) ks ds ρ) Q := by
    intro rest
    induction rest with
    | nil =>
      intro done ks ds e hd
      rw [List.append_nil] at e
      subst e
      exact ⟨_, rfl, k ks ds hd⟩
    | cons x rest ih =>
      intro done ks ds e hd
      have hx : x ∈ O := by rw [e]; simp
      have hdl : done.length ≤ O.length := by rw [e, List.length_append]; omega
      have hkn := hd.n
      rw [List.map_cons, hs x hx, if_pos (by omega)]
      have hc2 : Cons36 (done ++ [x]) := fun y hy z hz => hc y (by rw [e]; rcases List.mem_append.mp hy with h | h; exact List.mem_append_left _ h; rw [List.mem_singleton.mp h]; simp) z (by rw [e]; rcases List.mem_append.mp hz with h | h; exact List.mem_append_left _ h; rw [List.mem_singleton.mp h]; simp)
      exact ih (done ++ [x]) _ _ (by rw [e]; simp) (hd.put hc2)
  exact key O [] [] [] rfl ⟨rfl, rfl, Nat.le_refl _, fun q => ⟨fun h => (by cases h), fun ⟨_, h, _⟩ => (by cases h)⟩, fun x hx => (by cases hx)⟩
theorem are_choices_ok (hc : Cons36 O) (hl : O.length ≤ 10000) : c_are_choices [⟨.tup (O.map ownD), 0⟩, ⟨stD s, 0⟩] = .ok (⟨.bl (s.all (okB O)), 0⟩, [⟨.tup (O.map ownD), 0⟩, ⟨stD s, 0⟩]) := by
  have e1 : itemsOf (D.tup (O.map ownD)) = some (O.map ownD) := rfl
  have e2 : itemsOf (stD s) = some (s.map pr36D) := rfl
  generalize D.tup (O.map ownD) = od at *
  generalize stD s = sd at *
  have hal : s.all (okB O) = !s.any fun x => !okB O x := by
    rw [List.not_any_eq_all_not]
    simp
  rw [hal]
  refine Ret.eq ?_
  simp (maxSteps := 2000000) -implicitDefEqProofs [-List.getD_eq_getElem?_getD, -own_cons, own_consB, ixT0, ixT1, ixT2, ixT3, ixT4, c_are_choices, m_are_choices, mDComp, e1]
  refine ⟨by omega, ?_⟩
  refine Ret_dcO hc hl (fun x hx r ks ds => ?_) fun ks ds hd => ?_
  · simp (maxSteps := 2000000) -implicitDefEqProofs [-List.getD_eq_getElem?_getD, -own_cons, own_consB, ixT0, ixT1, ixT2, ixT3, ixT4, loopDC, e_are_choices_1, e_are_choices_2, ownD, tk_nD]
  · simp (maxSteps := 2000000) -implicitDefEqProofs [-List.getD_eq_getElem?_getD, -own_cons, own_consB, ixT0, ixT1, ixT2, ixT3, ixT4, e2]
    refine Ret_search s pr36D [3, 5] (fun x => if !okB O x then some (⟨.bl false, 0⟩ : Cell) else none) rfl (fun x jj hi => ?_) fun jj => ?_
    · obtain ⟨xp, xb⟩ := x
      have hin := inDt (q := iD xp) (ks := ks) (ds := ds) (k := 1) (k' := 0) (neg := true) tk_iD hd.tk
      rcases manyO_cases hc xp with ⟨q, m, hm, rfl, e⟩ | ⟨hn, e⟩
      · have hq : iD (upI q) ∈ ks := (hd.k _).mpr ⟨_, hm, nD_up⟩
        have hg := hd.g _ hm
        dsimp only at hg
        rw [nD_up] at hg
        have hix := ixDt (k := 1) (k' := 0) tk_iD hd.tk hg
        rw [decide_eq_true hq] at hin
        unfold okB
        dsimp only
        rw [e]
        by_cases h1 : 0 ≤ xb
        · by_cases h2 : xb < (m : Int)
          · simp (maxSteps := 2000000) -implicitDefEqProofs [-List.getD_eq_getElem?_getD, -own_cons, own_consB, ixT0, ixT1, ixT2, ixT3, ixT4, step1, b_are_choices_3, pr36D, hin, hix, h1, h2]
          · simp (maxSteps := 2000000) -implicitDefEqProofs [-List.getD_eq_getElem?_getD, -own_cons, own_consB, ixT0, ixT1, ixT2, ixT3, ixT4, step1, b_are_choices_3, pr36D, hin, hix, h1, h2]
        · simp (maxSteps := 2000000) -implicitDefEqProofs [-List.getD_eq_getElem?_getD, -own_cons, own_consB, ixT0, ixT1, ixT2, ixT3, ixT4, step1, b_are_choices_3, pr36D, hin, hix, h1]
      · have hq : iD xp ∉ ks := fun h => by
          obtain ⟨y, hy, e⟩ := (hd.k _).mp h
          rw [nD_up, iD_injE] at e
          exact hn y hy e
        rw [decide_eq_false hq] at hin
        unfold okB
        dsimp only
        rw [e]
        simp (maxSteps := 2000000) -implicitDefEqProofs [-List.getD_eq_getElem?_getD, -own_cons, own_consB, ixT0, ixT1, ixT2, ixT3, ixT4, step1, b_are_choices_3, pr36D, hin]
    · rw [some_any]
      cases s.any fun x => !okB O x <;> simp (maxSteps := 2000000) -implicitDefEqProofs [-List.getD_eq_getElem?_getD, -own_cons, own_consB, ixT0, ixT1, ixT2, ixT3, ixT4]
def last36D : Option (List Int) → D
  | none => .non
  | some p => iD p
def judF (O : Own36) (last : Option (List Int)) (s : St36) : Bool := ascF last (s.map (·.1)) && s.all (okB O)
def stepB : Option (List Int) → List Int → Bool
  | none, _ => true
  | some l, p => !lexB p l
theorem judF_cons {last : Option (List Int)} {xp : List Int} {xb : Int} {rest : St36} : judF O last ((xp, xb) :: rest) = (stepB last xp && okB O (xp, xb) && judF O (some xp) rest) := by
  unfold judF
  rw [List.map_cons, List.all_cons]
  cases last with
  | none => show (ascF (some xp) (rest.map (·.1)) && (okB O (xp, xb) && rest.all (okB O))) = (true && okB O (xp, xb) && (ascF (some xp) (rest.map (·.1)) && rest.all (okB O))); cases ascF (some xp) (rest.map (·.1)) <;> cases okB O (xp, xb) <;> rfl
  | some l => show (!lexB xp l && ascF (some xp) (rest.map (·.1)) && (okB O (xp, xb) && rest.all (okB O))) = (!lexB xp l && okB O (xp, xb) && (ascF (some xp) (rest.map (·.1)) && rest.all (okB O))); cases ascF (some xp) (rest.map (·.1)) <;> cases okB O (xp, xb) <;> cases lexB xp l <;> rfl
theorem law_judged_ok (hc : Cons36 O) (hl : O.length ≤ 10000) : c__law_judged [⟨.lst (O.map ownD), 1⟩, ⟨stD s, 0⟩] = .ok (⟨.bl (judS O s), 0⟩, [⟨.lst (O.map ownD), 1⟩, ⟨stD s, 0⟩]) := by
  have e2 : itemsOf (stD s) = some (s.map pr36D) := rfl
  have hix : ∀ (i : Nat) (x : List Nat × Nat), O[i]? = some x → fIx [⟨.lst (O.map ownD), 1⟩, ⟨.int (i : Int), 0⟩] = .ok ⟨ownD x, 0⟩ := fun i x h => ixL (by decide) (by rw [List.getElem?_map, h]; rfl)
  have hj : judS O s = judF O none s := rfl
  generalize stD s = sd at *
  refine Ret.eq ?_
  simp (maxSteps := 2000000) -implicitDefEqProofs [-List.getD_eq_getElem?_getD, -own_cons, own_consB, ixT0, ixT1, ixT2, ixT3, ixT4, c__law_judged, m__law_judged]
  refine ⟨by omega, ?_⟩
  refine Ret_comp O ownD (fun x => nD x.1) rfl (fun x hx => ?_) ?_
  · simp (maxSteps := 2000000) -implicitDefEqProofs [-List.getD_eq_getElem?_getD, -own_cons, own_consB, ixT0, ixT1, ixT2, ixT3, ixT4, comp1, e__law_judged_1, ownD]
  · have epl : ∀ y ∈ O.map fun x => nD x.1, y.pl 59 = true := fun y hy => by
      obtain ⟨x, _, rfl⟩ := List.mem_map.mp hy
      exact nD_pl
    have hil : isLstD (.lst (O.map fun x => nD x.1)) = true := rfl
    have hmm : ∀ d : D, d ∈ (O.map fun x => nD x.1) ↔ ∃ x ∈ O, nD x.1 = d := fun d => List.mem_map
    have hfi : ∀ (q : List Nat) (m : Nat), (q, m) ∈ O → ∃ (i : Nat) (x : List Nat × Nat), O[i]? = some x ∧ x.1 = q ∧ fIndexL [⟨.lst (O.map fun x => nD x.1), 1⟩, ⟨nD q, 0⟩] = .ok ⟨.int ((i : Nat) : Int), 0⟩ := fun q m hm => by
      obtain ⟨i, h1, h2, h3⟩ := f_indexL (q := q) (ps := O.map (·.1)) (k := 1) (k' := 0) (List.mem_map_of_mem (f := (·.1)) hm)
      rw [List.getElem?_map] at h2
      cases e : O[i]? with
      | none => rw [e] at h2; cases h2
      | some x =>
        rw [e] at h2
        cases h2
        rw [List.map_map] at h3
        exact ⟨i, x, e, rfl, h3⟩
    simp (maxSteps := 2000000) -implicitDefEqProofs [-List.getD_eq_getElem?_getD, -own_cons, own_consB, ixT0, ixT1, ixT2, ixT3, ixT4, e2]
    generalize O.map (fun x => nD x.1) = pths at *
    generalize hod : D.lst (O.map ownD) = od at *
    refine Ret_for s pr36D [3, 6] (fun (last : Option (List Int)) ρ => ρ.set 5 (some ⟨last36D last, 0⟩)) (fun _ rest last => judF O none s = judF O last rest) none rfl rfl rfl (fun done x rest last j e hI => ?_) fun last j hI => ?_
    · obtain ⟨xp, xb⟩ := x
      have hin := f_inL (x := iD xp) (l := pths) (k := 0) (k' := 1) (neg := true) iD_plN epl
      rw [judF_cons, ← hj] at hI
      rcases manyO_cases hc xp with ⟨q, m, hm, rfl, e1⟩ | ⟨hn, e1⟩
      · have hq : iD (upI q) ∈ pths := (hmm _).mpr ⟨_, hm, nD_up⟩
        obtain ⟨i, y, hy, rfl, hfx⟩ := hfi q m hm
        have hym : y.2 = m := hc y (List.mem_of_getElem? hy) (y.1, m) hm rfl
        have hx := hix i y hy
        have hy1 : fIx [⟨ownD y, 0⟩, ⟨.int 1, 0⟩] = .ok ⟨.int (y.2 : Nat), 0⟩ := ixT (i := 1) rfl
        rw [hym] at hy1
        rw [nD_up] at hfx
        rw [decide_eq_true hq] at hin
        have hok : okB O (upI y.1, xb) = decide (0 ≤ xb ∧ xb < (m : Int)) := by
          unfold okB
          dsimp only
          rw [e1]
        rw [hok] at hI
        generalize ownD y = yd at *
        have hlt : ∀ l, fLtT [⟨iD l, 0⟩, ⟨iD (upI y.1), 0⟩] = .ok ⟨.bl (!lexB (upI y.1) l), 0⟩ := fun l => ltT_tup
        generalize upI y.1 = up at *
        by_cases h1 : 0 ≤ xb
        · by_cases h2 : xb < (m : Int)
          · rw [decide_eq_true ⟨h1, h2⟩] at hI
            cases last with
            | none =>
              have hI : judS O s = judF O (some up) rest := hI
              simp (maxSteps := 2000000) -implicitDefEqProofs [-List.getD_eq_getElem?_getD, -own_cons, own_consB, ixT0, ixT1, ixT2, ixT3, ixT4, step1, b__law_judged_2, pr36D, hin, mIndex, mRecv, hil, hfx, hx, hy1, h1, h2, last36D]
              exact ⟨some up, rfl, by rw [← hj]; exact hI⟩
            | some l =>
              have hnn : fNotN [⟨iD l, 0⟩, ⟨.non, 0⟩] = .ok ⟨.bl true, 0⟩ := rfl
              cases hcl : lexB up l with
              | true =>
                have hI : judS O s = false := by
                  rw [hI]
                  show (!lexB up l && true && judF O (some up) rest) = _
                  rw [hcl]
                  rfl
                simp (maxSteps := 2000000) -implicitDefEqProofs [-List.getD_eq_getElem?_getD, -own_cons, own_consB, ixT0, ixT1, ixT2, ixT3, ixT4, step1, b__law_judged_2, pr36D, hin, mIndex, mRecv, hil, hfx, hx, hy1, h1, h2, last36D, hnn, hlt, hcl, hI]
              | false =>
                have hI : judS O s = judF O (some up) rest := by
                  rw [hI]
                  show (!lexB up l && true && judF O (some up) rest) = _
                  rw [hcl]
                  rfl
                simp (maxSteps := 2000000) -implicitDefEqProofs [-List.getD_eq_getElem?_getD, -own_cons, own_consB, ixT0, ixT1, ixT2, ixT3, ixT4, step1, b__law_judged_2, pr36D, hin, mIndex, mRecv, hil, hfx, hx, hy1, h1, h2, last36D, hnn, hlt, hcl]
                exact ⟨some up, rfl, by rw [← hj]; exact hI⟩
          · rw [decide_eq_false fun z => h2 z.2, Bool.and_false, Bool.false_and] at hI
            simp (maxSteps := 2000000) -implicitDefEqProofs [-List.getD_eq_getElem?_getD, -own_cons, own_consB, ixT0, ixT1, ixT2, ixT3, ixT4, step1, b__law_judged_2, pr36D, hin, mIndex, mRecv, hil, hfx, hx, hy1, h1, h2, hI]
        · rw [decide_eq_false fun z => h1 z.1, Bool.and_false, Bool.false_and] at hI
          simp (maxSteps := 2000000) -implicitDefEqProofs [-List.getD_eq_getElem?_getD, -own_cons, own_consB, ixT0, ixT1, ixT2, ixT3, ixT4, step1, b__law_judged_2, pr36D, hin, mIndex, mRecv, hil, hfx, hx, hy1, h1, hI]
      · have hq : iD xp ∉ pths := fun h => by
          obtain ⟨y, hy, e⟩ := (hmm _).mp h
          rw [nD_up, iD_injE] at e
          exact hn y hy e
        rw [decide_eq_false hq] at hin
        have hok : okB O (xp, xb) = false := by
          unfold okB
          dsimp only
          rw [e1]
        rw [hok, Bool.and_false, Bool.false_and] at hI
        simp (maxSteps := 2000000) -implicitDefEqProofs [-List.getD_eq_getElem?_getD, -own_cons, own_consB, ixT0, ixT1, ixT2, ixT3, ixT4, step1, b__law_judged_2, pr36D, hin, hI]
    · have : judS O s = true := by
        rw [hj, hI]
        cases last <;> rfl
      simp (maxSteps := 2000000) -implicitDefEqProofs [-List.getD_eq_getElem?_getD, -own_cons, own_consB, ixT0, ixT1, ixT2, ixT3, ixT4, this]
end
end S

namespace S
open Z PySem PySem.Spec PyProof.Rows L2
/-! W106: own questions, choices, is_strategy, _law_own. -/
def Hr.brs : Hr → Nat
  | .fin => 0
  | .ask _ rows => rows.length
def ownN (h : Hr) (b : Box) (p : Nat) : List (List Nat × Box × Hr) := (h.nodes [] b).filter fun x => !x.2.2.isFin && decide (x.2.2.per = p)
def ownL (h : Hr) (b : Box) (p : Nat) : Own36 := (ownN h b p).map fun x => (x.1, x.2.2.brs)
section
variable {O : Own36} {s : St36} {p : Nat} {x : List Nat × Box × Hr} {q : List Nat} {h z : Hr} {b : Box} {k k' : Nat}
theorem ask_ix {p : Nat} {rows : List (List Nat × Hr)} {k : Nat} : fIx [⟨(Hr.ask p rows).d, k⟩, ⟨.int 0, 0⟩] = .ok ⟨.str "ask", 0⟩ ∧ fIx [⟨(Hr.ask p rows).d, k⟩, ⟨.int 1, 0⟩] = .ok ⟨.int (p : Int), 0⟩ ∧ fIx [⟨(Hr.ask p rows).d, k⟩, ⟨.int 2, 0⟩] = .ok ⟨.tup (rows.map rowD), 0⟩ := by
  rw [Hr.d_ask]
  exact ⟨ixT (i := 0) rfl, ixT (i := 1) rfl, ixT (i := 2) rfl⟩
theorem rows_len {rows : List (List Nat × Hr)} {k : Nat} : fLen [⟨.tup (rows.map rowD), k⟩] = .ok ⟨.int (rows.length : Nat), 0⟩ := by
  show Z.R.ok (Cell.fz (.int ((rows.map rowD).length : Nat))) = _
  rw [List.length_map]
  rfl
theorem node_at36_ok (ha : h.at q = some z) : c_node_at_k36 [⟨h.d, 0⟩, ⟨nD q, 0⟩] = .ok (⟨z.d, 0⟩, [⟨h.d, 0⟩, ⟨nD q, 0⟩]) := by
  refine Ret.eq ?_
  simp (maxSteps := 2000000) -implicitDefEqProofs [-List.getD_eq_getElem?_getD, -own_cons, own_consB, ixT0, ixT1, ixT2, ixT3, ixT4, c_node_at_k36, m_node_at_k36]
  refine Ret_for q (fun (i : Nat) => D.int (i : Int)) [3] (fun (s : Hr) ρ => ρ.set 2 (some ⟨s.d, 0⟩)) (fun _ rest s => s.at rest = some z) h rfl rfl ha (fun done i rest s j e hI => ?_) fun s j hI => ?_
  · obtain ⟨p, rows, r, rfl, hr, h2⟩ := at_ask hI
    have e1 := (ask_ix (p := p) (rows := rows) (k := 0)).2.2
    have e2 : fIx [⟨.tup (rows.map rowD), 0⟩, ⟨.int (i : Int), 0⟩] = .ok ⟨rowD r, 0⟩ := ixT (by rw [List.getElem?_map, hr]; rfl)
    have e3 : fIx [⟨rowD r, 0⟩, ⟨.int 1, 0⟩] = .ok ⟨r.2.d, 0⟩ := ixT (i := 1) rfl
    generalize (Hr.ask p rows).d = ad at *
    simp (maxSteps := 2000000) -implicitDefEqProofs [-List.getD_eq_getElem?_getD, -own_cons, own_consB, ixT0, ixT1, ixT2, ixT3, ixT4, step1, b_node_at_k36_1, e1, e2, e3]
    exact ⟨r.2, rfl, h2⟩
  · have : s = z := by cases s <;> (unfold Hr.at at hI; cases hI; rfl)
    subst this
    simp (maxSteps := 2000000) -implicitDefEqProofs [-List.getD_eq_getElem?_getD, -own_cons, own_consB, ixT0, ixT1, ixT2, ixT3, ixT4]
theorem law_node36_ok (ha : h.at q = some z) : c__law_node_k36 [⟨h.d, 0⟩, ⟨nD q, 0⟩] = .ok (⟨z.d, 0⟩, [⟨h.d, 0⟩, ⟨nD q, 0⟩]) := by
  refine Ret.eq ?_
  simp (maxSteps := 2000000) -implicitDefEqProofs [-List.getD_eq_getElem?_getD, -own_cons, own_consB, ixT0, ixT1, ixT2, ixT3, ixT4, c__law_node_k36, m__law_node_k36]
  refine Ret_for q (fun (i : Nat) => D.int (i : Int)) [3] (fun (s : Hr) ρ => ρ.set 2 (some ⟨s.d, 0⟩)) (fun _ rest s => s.at rest = some z) h rfl rfl ha (fun done i rest s j e hI => ?_) fun s j hI => ?_
  · obtain ⟨p, rows, r, rfl, hr, h2⟩ := at_ask hI
    have e1 := (ask_ix (p := p) (rows := rows) (k := 0)).2.2
    have e2 : fIx [⟨.tup (rows.map rowD), 0⟩, ⟨.int (i : Int), 0⟩] = .ok ⟨rowD r, 0⟩ := ixT (by rw [List.getElem?_map, hr]; rfl)
    have e3 : fIx [⟨rowD r, 0⟩, ⟨.int 1, 0⟩] = .ok ⟨r.2.d, 0⟩ := ixT (i := 1) rfl
    generalize (Hr.ask p rows).d = ad at *
    simp (maxSteps := 2000000) -implicitDefEqProofs [-List.getD_eq_getElem?_getD, -own_cons, own_consB, ixT0, ixT1, ixT2, ixT3, ixT4, step1, b__law_node_k36_1, e1, e2, e3]
    exact ⟨r.2, rfl, h2⟩
  · have : s = z := by cases s <;> (unfold Hr.at at hI; cases hI; rfl)
    subst this
    simp (maxSteps := 2000000) -implicitDefEqProofs [-List.getD_eq_getElem?_getD, -own_cons, own_consB, ixT0, ixT1, ixT2, ixT3, ixT4]
theorem node_at0 (hx : x ∈ h.nodes [] b) : h.at x.1 = some x.2.2 := by
  obtain ⟨z, e1, e2⟩ := node_at hx
  rw [List.nil_append] at e1
  rw [e1]
  exact e2
theorem cons_own : Cons36 (ownL h b p) := fun x hx y hy e => by
  obtain ⟨u, hu, rfl⟩ := List.mem_map.mp hx
  obtain ⟨v, hv, rfl⟩ := List.mem_map.mp hy
  have h1 := node_at0 (List.mem_filter.mp hu).1
  have h2 := node_at0 (List.mem_filter.mp hv).1
  have e : u.1 = v.1 := e
  rw [e, h2] at h1
  have e3 := Option.some.inj h1
  show u.2.2.brs = v.2.2.brs
  rw [e3]
theorem ownN_ask (hx : x ∈ ownN h b p) : x ∈ h.nodes [] b ∧ ∃ rows, x.2.2 = .ask p rows := by
  obtain ⟨h1, h2⟩ := List.mem_filter.mp hx
  rw [Bool.and_eq_true, decide_eq_true_eq, Bool.not_eq_true'] at h2
  refine ⟨h1, ?_⟩
  cases e : x.2.2 with
  | fin => rw [e] at h2; simp [Hr.isFin] at h2
  | ask p' rows =>
    rw [e] at h2
    have : p' = p := h2.2
    subst this
    exact ⟨rows, rfl⟩
theorem branches_at_ok {rows : List (List Nat × Hr)} (ha : h.at q = some (.ask p rows)) : c_branches_at [⟨h.d, 0⟩, ⟨nD q, 0⟩] = .ok (⟨.tup (rows.map rowD), 0⟩, [⟨h.d, 0⟩, ⟨nD q, 0⟩]) := by
  have e1 := node_at36_ok ha
  have e2 := (ask_ix (p := p) (rows := rows) (k := 0)).2.2
  generalize (Hr.ask p rows).d = ad at *
  refine Ret.eq ?_
  simp (maxSteps := 2000000) -implicitDefEqProofs [-List.getD_eq_getElem?_getD, -own_cons, own_consB, ixT0, ixT1, ixT2, ixT3, ixT4, c_branches_at, m_branches_at, e1, e2]
def oqD (x : List Nat × Box × Hr) : D := .tup [nD x.1, Box.d x.2.1]
theorem own_questions_ok (o : HrIn b h) : c_own_questions [⟨Box.d b, 0⟩, ⟨h.d, 0⟩, ⟨.int (p : Int), 0⟩] = .ok (⟨.tup ((ownN h b p).map oqD), 0⟩, [⟨Box.d b, 0⟩, ⟨h.d, 0⟩, ⟨.int (p : Int), 0⟩]) := by
  have e1 := questions_of_ok o
  have hnl := o.nlen
  have hq : (h.quests b).map qD = ((h.nodes [] b).filter fun x => !x.2.2.isFin).map fun x => qD (x.1, x.2.2.per, x.2.1) := by
    unfold Hr.quests
    rw [List.map_map]
    rfl
  rw [hq] at e1
  have hfl := List.length_filter_le (fun x : List Nat × Box × Hr => !x.2.2.isFin) (h.nodes [] b)
  have hff : ownN h b p = ((h.nodes [] b).filter fun x => !x.2.2.isFin).filter fun x => decide (x.2.2.per = p) := by
    unfold ownN
    rw [List.filter_filter]
    congr 1
    funext x
    rw [Bool.and_comm]
  rw [hff]
  generalize (h.nodes [] b).filter (fun x => !x.2.2.isFin) = fs at *
  generalize h.d = hd at *
  have e2 : itemsOf (D.tup (fs.map fun x => qD (x.1, x.2.2.per, x.2.1))) = some (fs.map fun x => qD (x.1, x.2.2.per, x.2.1)) := rfl
  generalize D.tup (fs.map fun x => qD (x.1, x.2.2.per, x.2.1)) = qd at *
  refine Ret.eq ?_
  simp (maxSteps := 2000000) -implicitDefEqProofs [-List.getD_eq_getElem?_getD, -own_cons, own_consB, ixT0, ixT1, ixT2, ixT3, ixT4, c_own_questions, m_own_questions, e1, e2]
  refine Ret_for fs (fun x => qD (x.1, x.2.2.per, x.2.1)) [4, 5, 6] (fun (acc : List (List Nat × Box × Hr)) ρ => ρ.set 3 (some ⟨.lst (acc.map oqD), 1⟩)) (fun done _ acc => acc = done.filter fun x => decide (x.2.2.per = p)) [] rfl rfl rfl (fun done x rest acc j e hI => ?_) fun acc j hI => ?_
  · have hal : acc.length ≤ fs.length := by
      rw [hI, e]
      have := List.length_filter_le (fun x : List Nat × Box × Hr => decide (x.2.2.per = p)) done
      rw [List.length_append]
      omega
    by_cases hc : x.2.2.per = p
    · simp (maxSteps := 2000000) -implicitDefEqProofs [-List.getD_eq_getElem?_getD, -own_cons, own_consB, ixT0, ixT1, ixT2, ixT3, ixT4, step1, b_own_questions_1, qD, hc]
      exact ⟨by omega, by rw [hI], rfl⟩
    · have hc' : (((x.2.2.per : Nat) : Int) = (p : Int)) = False := eq_false (by omega)
      simp (maxSteps := 2000000) -implicitDefEqProofs [-List.getD_eq_getElem?_getD, -own_cons, own_consB, ixT0, ixT1, ixT2, ixT3, ixT4, step1, b_own_questions_1, qD, hc, hc']
      rw [hI]
  · subst hI
    have := List.length_filter_le (fun x : List Nat × Box × Hr => decide (x.2.2.per = p)) fs
    simp (maxSteps := 2000000) -implicitDefEqProofs [-List.getD_eq_getElem?_getD, -own_cons, own_consB, ixT0, ixT1, ixT2, ixT3, ixT4]
theorem ownN_len (o : HrIn b h) : (ownN h b p).length ≤ 2000 := Nat.le_trans (List.length_filter_le ..) o.nlen
theorem choices_of36_ok (o : HrIn b h) : c_choices_of_k36 [⟨Box.d b, 0⟩, ⟨h.d, 0⟩, ⟨.int (p : Int), 0⟩] = .ok (⟨.tup ((ownL h b p).map ownD), 0⟩, [⟨Box.d b, 0⟩, ⟨h.d, 0⟩, ⟨.int (p : Int), 0⟩]) := by
  have e1 := own_questions_ok (p := p) o
  have hl := ownN_len (p := p) o
  have hask := fun x (hx : x ∈ ownN h b p) => ownN_ask hx
  have hbr : ∀ x ∈ ownN h b p, ∃ v : D, c_branches_at [⟨h.d, 0⟩, ⟨nD x.1, 0⟩] = .ok (⟨v, 0⟩, [⟨h.d, 0⟩, ⟨nD x.1, 0⟩]) ∧ fLen [⟨v, 0⟩] = .ok ⟨.int (x.2.2.brs : Nat), 0⟩ := fun x hx => by
    obtain ⟨h1, rows, h2⟩ := hask x hx
    have h3 := node_at0 h1
    rw [h2] at h3
    refine ⟨_, branches_at_ok h3, ?_⟩
    rw [h2]
    exact rows_len
  have e2 : itemsOf (D.tup ((ownN h b p).map oqD)) = some ((ownN h b p).map oqD) := rfl
  have hL : (ownL h b p).map ownD = (ownN h b p).map fun x => ownD (x.1, x.2.2.brs) := by
    unfold ownL
    rw [List.map_map]
    rfl
  rw [hL]
  generalize ownN h b p = fs at *
  generalize h.d = hd at *
  generalize D.tup (fs.map oqD) = qd at *
  refine Ret.eq ?_
  simp (maxSteps := 2000000) -implicitDefEqProofs [-List.getD_eq_getElem?_getD, -own_cons, own_consB, ixT0, ixT1, ixT2, ixT3, ixT4, c_choices_of_k36, m_choices_of_k36, e1, e2]
  refine Ret_for fs oqD [4, 5] (fun (acc : List (List Nat × Box × Hr)) ρ => ρ.set 3 (some ⟨.lst (acc.map fun x => ownD (x.1, x.2.2.brs)), 1⟩)) (fun done _ acc => acc = done) [] rfl rfl rfl (fun done x rest acc j e hI => ?_) fun acc j hI => ?_
  · subst hI
    have hal : acc.length ≤ fs.length := by rw [e, List.length_append]; omega
    obtain ⟨v, h1, h2⟩ := hbr x (by rw [e]; simp)
    simp (maxSteps := 2000000) -implicitDefEqProofs [-List.getD_eq_getElem?_getD, -own_cons, own_consB, ixT0, ixT1, ixT2, ixT3, ixT4, step1, b_choices_of_k36_1, oqD, h1, h2, ownD]
    omega
  · subst hI
    simp (maxSteps := 2000000) -implicitDefEqProofs [-List.getD_eq_getElem?_getD, -own_cons, own_consB, ixT0, ixT1, ixT2, ixT3, ixT4]
theorem is_strategy_ok (o : HrIn b h) (hl : s.length ≤ 10000) : c_is_strategy [⟨Box.d b, 0⟩, ⟨h.d, 0⟩, ⟨.int (p : Int), 0⟩, ⟨stD s, 0⟩] = .ok (⟨.bl (judS (ownL h b p) s), 0⟩, [⟨Box.d b, 0⟩, ⟨h.d, 0⟩, ⟨.int (p : Int), 0⟩, ⟨stD s, 0⟩]) := by
  have e1 := choices_of36_ok (p := p) o
  have hol : (ownL h b p).length ≤ 10000 := by
    unfold ownL
    rw [List.length_map]
    have := ownN_len (p := p) o
    omega
  have e2 := are_choices_ok (s := s) (cons_own (h := h) (b := b) (p := p)) hol
  have e3 := are_ascending_ok (ps := s.map (·.1)) (by rw [List.length_map]; exact hl)
  have e4 : itemsOf (stD s) = some (s.map pr36D) := rfl
  have hj : judS (ownL h b p) s = (ascF none (s.map (·.1)) && s.all (okB (ownL h b p))) := rfl
  rw [hj]
  rw [List.map_map] at e3
  generalize stD s = sd at *
  generalize D.tup ((ownL h b p).map ownD) = od at *
  generalize h.d = hd at *
  refine Ret.eq ?_
  simp (maxSteps := 2000000) -implicitDefEqProofs [-List.getD_eq_getElem?_getD, -own_cons, own_consB, ixT0, ixT1, ixT2, ixT3, ixT4, c_is_strategy, m_is_strategy, e4]
  refine ⟨by omega, ?_⟩
  refine Ret_comp s pr36D (iD ∘ (·.1)) rfl (fun x hx => ?_) ?_
  · simp (maxSteps := 2000000) -implicitDefEqProofs [-List.getD_eq_getElem?_getD, -own_cons, own_consB, ixT0, ixT1, ixT2, ixT3, ixT4, comp1, e_is_strategy_1, pr36D]
  · generalize s.map (iD ∘ (·.1)) = pd at *
    cases hc : ascF none (s.map (·.1)) <;> rw [hc] at e3 <;> simp (maxSteps := 2000000) -implicitDefEqProofs [-List.getD_eq_getElem?_getD, -own_cons, own_consB, ixT0, ixT1, ixT2, ixT3, ixT4, e3, e1, e2]
theorem law_own36_ok (o : HrIn b h) (hm : h.many ≤ 1000) : c__law_own_k36 [⟨Box.d b, 0⟩, ⟨h.d, 0⟩, ⟨.int (p : Int), 0⟩] = .ok (⟨.lst ((ownL h b p).map ownD), 1⟩, [⟨Box.d b, 0⟩, ⟨h.d, 0⟩, ⟨.int (p : Int), 0⟩]) := by
  have e1 := law_nodes_e o.ok (by have := o.b4; omega) hm
  have hl := o.nlen
  have q1 : fEq [⟨.str "end", 0⟩, ⟨.str "ask", 0⟩] = .ok ⟨.bl false, 0⟩ := by
    have := f_eqS (k := 0) (k' := 0) end_okd ask_okd
    rw [decide_eq_false (by decide)] at this
    exact this
  have q2 : fEq [⟨.str "ask", 0⟩, ⟨.str "ask", 0⟩] = .ok ⟨.bl true, 0⟩ := by
    have := f_eqS (k := 0) (k' := 0) ask_okd ask_okd
    rw [decide_eq_true rfl] at this
    exact this
  have hL : (ownL h b p).map ownD = (((h.nodes [] b).filter fun x => !x.2.2.isFin && decide (x.2.2.per = p)).map fun x => ownD (x.1, x.2.2.brs)) := by
    unfold ownL ownN
    rw [List.map_map]
    rfl
  rw [hL]
  generalize h.nodes [] b = fs at *
  generalize h.d = hd at *
  refine Ret.eq ?_
  simp (maxSteps := 2000000) -implicitDefEqProofs [-List.getD_eq_getElem?_getD, -own_cons, own_consB, ixT0, ixT1, ixT2, ixT3, ixT4, c__law_own_k36, m__law_own_k36, e1]
  refine Ret_for fs nodeD [4, 5, 6] (fun (acc : List (List Nat × Box × Hr)) ρ => ρ.set 3 (some ⟨.lst (acc.map fun x => ownD (x.1, x.2.2.brs)), 1⟩)) (fun done _ acc => acc = done.filter fun x => !x.2.2.isFin && decide (x.2.2.per = p)) [] rfl rfl rfl (fun done x rest acc j e hI => ?_) fun acc j hI => ?_
  · have hal : acc.length ≤ fs.length := by
      rw [hI, e]
      have := List.length_filter_le (fun x : List Nat × Box × Hr => !x.2.2.isFin && decide (x.2.2.per = p)) done
      rw [List.length_append]
      omega
    obtain ⟨xp, xb, xh⟩ := x
    cases xh with
    | fin =>
      have f0 : fIx [⟨Hr.fin.d, 0⟩, ⟨.int 0, 0⟩] = .ok ⟨.str "end", 0⟩ := by rw [Hr.d_fin]; exact ixT (i := 0) rfl
      have hfin0 : Hr.fin.isFin = true := rfl
      simp (maxSteps := 2000000) -implicitDefEqProofs [-List.getD_eq_getElem?_getD, -own_cons, own_consB, ixT0, ixT1, ixT2, ixT3, ixT4, step1, b__law_own_k36_1, nodeD, f0, q1, hfin0]
      rw [hI]
    | ask p' rows =>
      obtain ⟨f0, f1, f2⟩ := ask_ix (p := p') (rows := rows) (k := 0)
      have hbrs : (Hr.ask p' rows).brs = rows.length := rfl
      have hper : (Hr.ask p' rows).per = p' := rfl
      have hfin : (Hr.ask p' rows).isFin = false := rfl
      have f3 := rows_len (rows := rows) (k := 0)
      generalize hah : Hr.ask p' rows = ah at *
      generalize D.tup (rows.map rowD) = rd at *
      by_cases hc : p' = p
      · simp (maxSteps := 2000000) -implicitDefEqProofs [-List.getD_eq_getElem?_getD, -own_cons, own_consB, ixT0, ixT1, ixT2, ixT3, ixT4, step1, b__law_own_k36_1, nodeD, f0, f1, f2, f3, q2, hfin, hper, hc, hbrs, ownD]
        exact ⟨by omega, by rw [hI]⟩
      · have hc' : (((p' : Nat) : Int) = (p : Int)) = False := eq_false (by omega)
        simp (maxSteps := 2000000) -implicitDefEqProofs [-List.getD_eq_getElem?_getD, -own_cons, own_consB, ixT0, ixT1, ixT2, ixT3, ixT4, step1, b__law_own_k36_1, nodeD, f0, f1, q2, hfin, hper, hc, hc']
        rw [hI]
  · subst hI
    simp (maxSteps := 2000000) -implicitDefEqProofs [-List.getD_eq_getElem?_getD, -own_cons, own_consB, ixT0, ixT1, ixT2, ixT3, ixT4]
end
end S

namespace S
open Z PySem PySem.Spec PyProof.Rows L2
/-! W107: truthful strategies; what is asked. -/
def bi36 (rows : List (List Nat × Hr)) (k : Nat) : Option Nat := (List.range rows.length).find? fun i => decide (k ∈ (rows.getD i default).1)
def brI : Hr → Nat → Nat
  | .fin, _ => 0
  | .ask _ rows, k => (bi36 rows k).getD 0
def trN (h : Hr) (b : Box) (p k : Nat) : List (List Nat × Box × Hr) := (ownN h b p).filter fun x => decide (k ∈ x.2.1.getD p [])
def trL (h : Hr) (b : Box) (p k : Nat) : Own36 := (trN h b p k).map fun x => (x.1, brI x.2.2 k)
section
variable {O : Own36} {s : St36} {p kd : Nat} {x : List Nat × Box × Hr} {q : List Nat} {h z : Hr} {b : Box} {k k' : Nat} {rows : List (List Nat × Hr)} {l : List D}
theorem bi_some (hk : HearOk b (.ask p rows)) (hm : kd ∈ b.getD p []) : ∃ i, bi36 rows kd = some i ∧ i < rows.length := by
  have hex : ∃ i, i < rows.length ∧ kd ∈ (rows.getD i default).1 := by
    cases hk with
    | ask hp h2 h3 h4 h5 =>
      have := h4.mem_iff.mpr hm
      obtain ⟨c, hc, hkc⟩ := List.mem_flatten.mp this
      obtain ⟨r, hr, rfl⟩ := List.mem_map.mp hc
      obtain ⟨i, hi, rfl⟩ := List.mem_iff_getElem.mp hr
      exact ⟨i, hi, by rw [getD_of_lt hi]; exact hkc⟩
  obtain ⟨i, hi, hki⟩ := hex
  cases e : bi36 rows kd with
  | none =>
    have := List.find?_eq_none.mp e i (List.mem_range.mpr hi)
    exact absurd (decide_eq_true hki) this
  | some j => exact ⟨j, rfl, List.mem_range.mp (List.mem_of_find?_eq_some e)⟩
theorem row_ix {i : Nat} (hi : i < rows.length) {k k' : Nat} : fIx [⟨.tup (rows.map rowD), k⟩, ⟨.int (i : Int), k'⟩] = .ok ⟨rowD (rows.getD i default), 0⟩ := ixT (map_some hi)
theorem rowD_0 {r : List Nat × Hr} {k k' : Nat} : fIx [⟨rowD r, k⟩, ⟨.int 0, k'⟩] = .ok ⟨nD r.1, 0⟩ := ixT (i := 0) rfl
theorem branch_with36_ok {i : Nat} (ha : h.at q = some (.ask p rows)) (hb : bi36 rows kd = some i) (hl : rows.length ≤ 1000) : c_branch_with_k36 [⟨h.d, 0⟩, ⟨nD q, 0⟩, ⟨.int (kd : Int), 0⟩] = .ok (⟨.int (i : Int), 0⟩, [⟨h.d, 0⟩, ⟨nD q, 0⟩, ⟨.int (kd : Int), 0⟩]) := by
  have e1 := branches_at_ok ha
  have e2 := rows_len (rows := rows) (k := 0)
  have e3 := fun i (hi : i < rows.length) => row_ix (rows := rows) (k := 0) (k' := 0) hi
  have e5 : ∀ i, i < rows.length → c_kinds_at [⟨h.d, 0⟩, ⟨nD q, 0⟩, ⟨.int (i : Int), 0⟩] = .ok (⟨nD (rows.getD i default).1, 0⟩, [⟨h.d, 0⟩, ⟨nD q, 0⟩, ⟨.int (i : Int), 0⟩]) := fun i hi => by
    have e4 := e3 i hi
    generalize D.tup (rows.map rowD) = rd at *
    refine Ret.eq ?_
    simp (maxSteps := 2000000) -implicitDefEqProofs [-List.getD_eq_getElem?_getD, -own_cons, own_consB, ixT0, ixT1, ixT2, ixT3, ixT4, c_kinds_at, m_kinds_at, e1, e4, rowD_0]
  generalize D.tup (rows.map rowD) = rd at *
  generalize h.d = hd at *
  refine Ret.eq ?_
  simp (maxSteps := 2000000) -implicitDefEqProofs [-List.getD_eq_getElem?_getD, -own_cons, own_consB, ixT0, ixT1, ixT2, ixT3, ixT4, c_branch_with_k36, m_branch_with_k36, e1, e2, rgD_nat']
  refine ⟨by omega, ?_⟩
  refine Ret_search (List.range rows.length) (fun (i : Nat) => D.int (i : Int)) [3] (fun i => if decide (kd ∈ (rows.getD i default).1) = true then some (⟨.int (i : Int), 0⟩ : Cell) else none) rfl (fun i jj hi => ?_) fun jj => ?_
  · have hi := List.mem_range.mp hi
    have e6 := e5 i hi
    have e7 := f_inN (i := kd) (l := (rows.getD i default).1) (k := 0) (k' := 0) (neg := false)
    rw [Bool.false_xor] at e7
    generalize hkn : nD (rows.getD i default).1 = kn at *
    cases hc : decide (kd ∈ (rows.getD i default).1) <;> rw [hc] at e7 <;> simp (maxSteps := 2000000) -implicitDefEqProofs [-List.getD_eq_getElem?_getD, -own_cons, own_consB, ixT0, ixT1, ixT2, ixT3, ixT4, step1, b_branch_with_k36_1, e6, e7]
  · rw [find_ite]
    unfold bi36 at hb
    rw [hb]
    simp (maxSteps := 2000000) -implicitDefEqProofs [-List.getD_eq_getElem?_getD, -own_cons, own_consB, ixT0, ixT1, ixT2, ixT3, ixT4]
theorem ownN_hear (o : HrIn b h) (hx : x ∈ ownN h b p) : ∃ rows, x.2.2 = .ask p rows ∧ h.at x.1 = some (.ask p rows) ∧ HearOk x.2.1 (.ask p rows) ∧ x.1.length ≤ 28 ∧ x.2.1.length = b.length ∧ rows.length ≤ 8 ∧ 2 ≤ rows.length := by
  obtain ⟨h1, rows, h2⟩ := ownN_ask hx
  have h3 := node_at0 h1
  obtain ⟨n1, _, n3, n4⟩ := node_small o h1
  rw [h2] at h3 n3
  obtain ⟨r2, r8, _⟩ := rows8 n3.ok n3.l8
  exact ⟨rows, h2, h3, n3.ok, n1, n4, r8, r2⟩
theorem truthful_ok (o : HrIn b h) (hp : p < b.length) : c_truthful [⟨Box.d b, 0⟩, ⟨h.d, 0⟩, ⟨.int (p : Int), 0⟩, ⟨.int (kd : Int), 0⟩] = .ok (⟨.tup ((trL h b p kd).map ownD), 0⟩, [⟨Box.d b, 0⟩, ⟨h.d, 0⟩, ⟨.int (p : Int), 0⟩, ⟨.int (kd : Int), 0⟩]) := by
  have e1 := own_questions_ok (p := p) o
  have hl := ownN_len (p := p) o
  have e2 : itemsOf (D.tup ((ownN h b p).map oqD)) = some ((ownN h b p).map oqD) := rfl
  have hbr : ∀ x ∈ ownN h b p, x.2.1.length = b.length ∧ (kd ∈ x.2.1.getD p [] → c_branch_with_k36 [⟨h.d, 0⟩, ⟨nD x.1, 0⟩, ⟨.int (kd : Int), 0⟩] = .ok (⟨.int (brI x.2.2 kd : Nat), 0⟩, [⟨h.d, 0⟩, ⟨nD x.1, 0⟩, ⟨.int (kd : Int), 0⟩])) := fun x hx => by
    obtain ⟨rows, g1, g2, g3, g4, g5, g6, g7⟩ := ownN_hear o hx
    refine ⟨g5, fun hm => ?_⟩
    obtain ⟨i, hi, _⟩ := bi_some g3 hm
    have := branch_with36_ok g2 hi (by omega)
    rw [g1]
    show _ = Z.R.ok ((⟨.int (((bi36 rows kd).getD 0 : Nat) : Int), 0⟩ : Cell), _)
    rw [hi]
    exact this
  have hL : (trL h b p kd).map ownD = ((ownN h b p).filter fun x => decide (kd ∈ x.2.1.getD p [])).map fun x => ownD (x.1, brI x.2.2 kd) := by
    unfold trL trN
    rw [List.map_map]
    rfl
  rw [hL]
  generalize ownN h b p = fs at *
  generalize h.d = hd at *
  generalize D.tup (fs.map oqD) = qd at *
  refine Ret.eq ?_
  simp (maxSteps := 2000000) -implicitDefEqProofs [-List.getD_eq_getElem?_getD, -own_cons, own_consB, ixT0, ixT1, ixT2, ixT3, ixT4, c_truthful, m_truthful, e1, e2]
  refine Ret_for fs oqD [5, 6] (fun (acc : List (List Nat × Box × Hr)) ρ => ρ.set 4 (some ⟨.lst (acc.map fun x => ownD (x.1, brI x.2.2 kd)), 1⟩)) (fun done _ acc => acc = done.filter fun x => decide (kd ∈ x.2.1.getD p [])) [] rfl rfl rfl (fun done x rest acc j e hI => ?_) fun acc j hI => ?_
  · have hal : acc.length ≤ fs.length := by
      rw [hI, e]
      have := List.length_filter_le (fun x : List Nat × Box × Hr => decide (kd ∈ x.2.1.getD p [])) done
      rw [List.length_append]
      omega
    obtain ⟨g1, g2⟩ := hbr x (by rw [e]; simp)
    have ex : fIx [⟨Box.d x.2.1, 0⟩, ⟨.int (p : Int), 0⟩] = .ok ⟨nD (x.2.1.getD p []), 0⟩ := ixT (map_some (by omega))
    have e7 := f_inN (i := kd) (l := x.2.1.getD p []) (k := 0) (k' := 0) (neg := false)
    rw [Bool.false_xor] at e7
    generalize nD (x.2.1.getD p []) = kn at *
    by_cases hc : kd ∈ x.2.1.getD p []
    · have g2 := g2 hc
      rw [decide_eq_true hc] at e7
      simp (maxSteps := 2000000) -implicitDefEqProofs [-List.getD_eq_getElem?_getD, -own_cons, own_consB, ixT0, ixT1, ixT2, ixT3, ixT4, step1, b_truthful_1, oqD, ex, e7, g2, hc, ownD]
      exact ⟨by omega, by rw [hI]⟩
    · rw [decide_eq_false hc] at e7
      simp (maxSteps := 2000000) -implicitDefEqProofs [-List.getD_eq_getElem?_getD, -own_cons, own_consB, ixT0, ixT1, ixT2, ixT3, ixT4, step1, b_truthful_1, oqD, ex, e7, hc]
      rw [hI]
  · subst hI
    simp (maxSteps := 2000000) -implicitDefEqProofs [-List.getD_eq_getElem?_getD, -own_cons, own_consB, ixT0, ixT1, ixT2, ixT3, ixT4]
end
end S

namespace S
open Z PySem PySem.Spec PyProof.Rows L2
/-! W108: the law's truthful strategies; what is asked of strategies. -/
section
variable {O : Own36} {s : St36} {p kd : Nat} {x : List Nat × Box × Hr} {q : List Nat} {h z : Hr} {b : Box} {k k' : Nat} {rows : List (List Nat × Hr)} {l : List D}
theorem law_own_truthful_ok (o : HrIn b h) (hp : p < b.length) : c__law_own_truthful [⟨Box.d b, 0⟩, ⟨h.d, 0⟩, ⟨.int (p : Int), 0⟩, ⟨.int (kd : Int), 0⟩] = .ok (⟨.tup ((trL h b p kd).map ownD), 0⟩, [⟨Box.d b, 0⟩, ⟨h.d, 0⟩, ⟨.int (p : Int), 0⟩, ⟨.int (kd : Int), 0⟩]) := by
  have e1 := law_nodes_e o.ok (by have := o.b4; omega) o.m
  have hl := o.nlen
  have q1 : fEq [⟨.str "end", 0⟩, ⟨.str "ask", 0⟩] = .ok ⟨.bl false, 0⟩ := eq_endask
  have q2 : fEq [⟨.str "ask", 0⟩, ⟨.str "ask", 0⟩] = .ok ⟨.bl true, 0⟩ := eq_asks
  have hL : (trL h b p kd).map ownD = ((h.nodes [] b).filter fun x => (!x.2.2.isFin && decide (x.2.2.per = p)) && decide (kd ∈ x.2.1.getD p [])).map fun x => ownD (x.1, brI x.2.2 kd) := by
    have hff : (h.nodes [] b).filter (fun x => (!x.2.2.isFin && decide (x.2.2.per = p)) && decide (kd ∈ x.2.1.getD p [])) = trN h b p kd := by
      unfold trN ownN
      rw [List.filter_filter]
      congr 1
      funext x
      rw [Bool.and_comm]
    rw [hff]
    unfold trL
    rw [List.map_map]
    rfl
  have hno : ∀ x ∈ h.nodes [] b, x.2.1.length = b.length ∧ (∀ rows, x.2.2 = .ask p rows → HearOk x.2.1 (.ask p rows) ∧ rows.length ≤ 8) := fun x hx => by
    obtain ⟨_, _, n3, n4⟩ := node_small o hx
    refine ⟨n4, fun rows e => ?_⟩
    rw [e] at n3
    obtain ⟨_, r8, _⟩ := rows8 n3.ok n3.l8
    exact ⟨n3.ok, r8⟩
  rw [hL]
  generalize h.nodes [] b = fs at *
  generalize h.d = hd at *
  refine Ret.eq ?_
  simp (maxSteps := 2000000) -implicitDefEqProofs [-List.getD_eq_getElem?_getD, -own_cons, own_consB, ixT0, ixT1, ixT2, ixT3, ixT4, c__law_own_truthful, m__law_own_truthful, e1]
  refine Ret_for fs nodeD [5, 6, 7] (fun (acc : List (List Nat × Box × Hr)) ρ => ρ.set 4 (some ⟨.lst (acc.map fun x => ownD (x.1, brI x.2.2 kd)), 1⟩)) (fun done _ acc => acc = done.filter fun x => (!x.2.2.isFin && decide (x.2.2.per = p)) && decide (kd ∈ x.2.1.getD p [])) [] rfl rfl rfl (fun done x rest acc j e hI => ?_) fun acc j hI => ?_
  · have hal : acc.length ≤ fs.length := by
      rw [hI, e]
      have := List.length_filter_le (fun x : List Nat × Box × Hr => (!x.2.2.isFin && decide (x.2.2.per = p)) && decide (kd ∈ x.2.1.getD p [])) done
      rw [List.length_append]
      omega
    obtain ⟨n4, hro⟩ := hno x (by rw [e]; simp)
    obtain ⟨xp, xb, xh⟩ := x
    cases xh with
    | fin =>
      have f0 : fIx [⟨Hr.fin.d, 0⟩, ⟨.int 0, 0⟩] = .ok ⟨.str "end", 0⟩ := Hr.fin_at0
      have hfin0 : Hr.fin.isFin = true := rfl
      simp (maxSteps := 2000000) -implicitDefEqProofs [-List.getD_eq_getElem?_getD, -own_cons, own_consB, ixT0, ixT1, ixT2, ixT3, ixT4, step1, b__law_own_truthful_3, nodeD, f0, q1, hfin0]
      rw [hI]
    | ask p' rows =>
      obtain ⟨f0, f1, f2⟩ := ask_ix (p := p') (rows := rows) (k := 0)
      have hper : (Hr.ask p' rows).per = p' := rfl
      have hfin : (Hr.ask p' rows).isFin = false := rfl
      have f3 := rows_len (rows := rows) (k := 0)
      have f4 := fun i (hi : i < rows.length) => row_ix (rows := rows) (k := 0) (k' := 0) hi
      have hbr : brI (Hr.ask p' rows) kd = (bi36 rows kd).getD 0 := rfl
      have hro' := fun (e : p' = p) => hro rows (by rw [e])
      have n4 : xb.length = b.length := n4
      by_cases hc : p' = p
      · subst hc
        obtain ⟨g1, g2⟩ := hro' rfl
        have ex : fIx [⟨Box.d xb, 0⟩, ⟨.int (p' : Int), 0⟩] = .ok ⟨nD (xb.getD p' []), 0⟩ := ixT (map_some (by omega))
        have e7 := f_inN (i := kd) (l := xb.getD p' []) (k := 0) (k' := 0) (neg := false)
        rw [Bool.false_xor] at e7
        have g3 := fun hm => bi_some (kd := kd) (p := p') (b := xb) (rows := rows) g1 hm
        generalize hah : Hr.ask p' rows = ah at *
        generalize D.tup (rows.map rowD) = rd at *
        generalize nD (xb.getD p' []) = kn at *
        by_cases hm : kd ∈ xb.getD p' []
        · rw [decide_eq_true hm] at e7
          obtain ⟨i, hi, hil⟩ := g3 hm
          simp (maxSteps := 2000000) -implicitDefEqProofs [-List.getD_eq_getElem?_getD, -own_cons, own_consB, ixT0, ixT1, ixT2, ixT3, ixT4, step1, b__law_own_truthful_3, nodeD, f0, f1, f2, f3, q2, hfin, hper, ex, e7, rgD_nat']
          refine ⟨by omega, by omega, ?_⟩
          refine Ret_compF (List.range rows.length) (fun (i : Nat) => D.int (i : Int)) (fun i => decide (kd ∈ (rows.getD i default).1)) (fun (i : Nat) => D.int (i : Int)) rfl (fun i hi => ?_) ?_
          · have hi := List.mem_range.mp hi
            have e8 := f4 i hi
            have e9 := f_inN (i := kd) (l := (rows.getD i default).1) (k := 0) (k' := 0) (neg := false)
            have e10 := rowD_0 (r := rows.getD i default) (k := 0) (k' := 0)
            rw [Bool.false_xor] at e9
            generalize rowD (rows.getD i default) = rwd at *
            generalize nD (rows.getD i default).1 = kn at *
            generalize decide (kd ∈ (rows.getD i default).1) = bb at *
            cases bb <;> simp (maxSteps := 2000000) -implicitDefEqProofs [-List.getD_eq_getElem?_getD, -own_cons, own_consB, ixT0, ixT1, ixT2, ixT3, ixT4, comp1, t__law_own_truthful_1, e__law_own_truthful_2, f2, e8, e9, e10]
          · have hh : ((List.range rows.length).filter fun i => decide (kd ∈ (rows.getD i default).1)).head? = some i := by
              rw [List.head?_filter]
              exact hi
            rw [hi] at hbr
            have hbr : brI ah kd = i := hbr
            generalize (List.range rows.length).filter (fun i => decide (kd ∈ (rows.getD i default).1)) = fl at *
            cases fl with
            | nil => cases hh
            | cons i0 fl =>
              cases hh
              have e8 : fIx [⟨.lst ((i :: fl).map fun (i : Nat) => D.int (i : Int)), 1⟩, ⟨.int 0, 0⟩] = .ok ⟨.int (i : Int), 0⟩ := ixL (i := 0) (by decide) rfl
              rw [List.map_cons] at e8
              simp (maxSteps := 2000000) -implicitDefEqProofs [-List.getD_eq_getElem?_getD, -own_cons, own_consB, ixT0, ixT1, ixT2, ixT3, ixT4, e8, hm, hbr, ownD]
              refine ⟨by omega, ?_⟩
              rw [hI]
              simp (maxSteps := 2000000) -implicitDefEqProofs [-List.getD_eq_getElem?_getD, -own_cons, own_consB, ixT0, ixT1, ixT2, ixT3, ixT4, hfin, hper, hm, hbr]
        · rw [decide_eq_false hm] at e7
          simp (maxSteps := 2000000) -implicitDefEqProofs [-List.getD_eq_getElem?_getD, -own_cons, own_consB, ixT0, ixT1, ixT2, ixT3, ixT4, step1, b__law_own_truthful_3, nodeD, f0, f1, f2, f3, q2, hfin, hper, ex, e7, hm]
          rw [hI]
      · have hc' : (((p' : Nat) : Int) = (p : Int)) = False := eq_false (by omega)
        generalize hah : Hr.ask p' rows = ah at *
        simp (maxSteps := 2000000) -implicitDefEqProofs [-List.getD_eq_getElem?_getD, -own_cons, own_consB, ixT0, ixT1, ixT2, ixT3, ixT4, step1, b__law_own_truthful_3, nodeD, f0, f1, q2, hfin, hper, hc, hc']
        rw [hI]
  · subst hI
    have := List.length_filter_le (fun x : List Nat × Box × Hr => (!x.2.2.isFin && decide (x.2.2.per = p)) && decide (kd ∈ x.2.1.getD p [])) fs
    simp (maxSteps := 2000000) -implicitDefEqProofs [-List.getD_eq_getElem?_getD, -own_cons, own_consB, ixT0, ixT1, ixT2, ixT3, ixT4]
theorem trL_len (o : HrIn b h) : (trL h b p kd).length ≤ 2000 := by
  unfold trL trN
  rw [List.length_map]
  have := List.length_filter_le (fun x : List Nat × Box × Hr => decide (kd ∈ x.2.1.getD p [])) (ownN h b p)
  have := ownN_len (p := p) o
  omega
theorem law_are_truthful_ok (o : HrIn b h) (hp : p < b.length) : c__law_are_truthful [⟨Box.d b, 0⟩, ⟨h.d, 0⟩, ⟨.int (p : Int), 0⟩] = .ok (⟨.bl true, 0⟩, [⟨Box.d b, 0⟩, ⟨h.d, 0⟩, ⟨.int (p : Int), 0⟩]) := by
  have ex : fIx [⟨Box.d b, 0⟩, ⟨.int (p : Int), 0⟩] = .ok ⟨nD (b.getD p []), 0⟩ := ixT (map_some hp)
  have e0 : itemsOf (nD (b.getD p [])) = some ((b.getD p []).map fun (i : Nat) => D.int (i : Int)) := rfl
  have e1 := fun kd => truthful_ok (kd := kd) o hp
  have e2 := fun kd => law_own_truthful_ok (kd := kd) o hp
  have hl := fun kd => trL_len (p := p) (kd := kd) o
  have hxl : ∀ kd, ∀ y ∈ trL h b p kd, y.1.length ≤ 28 := fun kd y hy => by
    obtain ⟨x, hx, rfl⟩ := List.mem_map.mp hy
    obtain ⟨_, _, _, _, h28, _⟩ := ownN_hear o (List.mem_filter.mp hx).1
    exact h28
  generalize h.d = hd at *
  refine Ret.eq ?_
  simp (maxSteps := 2000000) -implicitDefEqProofs [-List.getD_eq_getElem?_getD, -own_cons, own_consB, ixT0, ixT1, ixT2, ixT3, ixT4, c__law_are_truthful, m__law_are_truthful, ex, e0]
  refine Ret_search (b.getD p []) (fun (i : Nat) => D.int (i : Int)) [3, 4] (fun i => (none : Option Cell)) rfl (fun i jj hi => ?_) fun jj => ?_
  · have e1 := e1 i
    have e2 := e2 i
    have hl := hl i
    have hxl := hxl i
    have e3 : fIsi "tuple" [⟨.tup ((trL h b p i).map ownD), 0⟩] = .ok ⟨.bl true, 0⟩ := rfl
    have e4 : itemsOf (.tup ((trL h b p i).map ownD)) = some ((trL h b p i).map ownD) := rfl
    have e5 : fNe [⟨.tup ((trL h b p i).map ownD), 0⟩, ⟨.tup ((trL h b p i).map ownD), 0⟩] = .ok ⟨.bl false, 0⟩ := f_neSelf (by
      show (((trL h b p i).map ownD).all fun d => d.okd 59) = true
      rw [List.all_eq_true]
      intro d hd
      obtain ⟨x, hx, rfl⟩ := List.mem_map.mp hd
      obtain ⟨u, v⟩ := x
      show ((nD u).okd 58 && ((D.int (v : Nat)).okd 58 && true)) = true
      rw [nD_okd (n := 57)]
      rfl)
    have hpair : ∀ x : List Nat × Nat, c__law_is_pair [⟨ownD x, 0⟩] = .ok (⟨.bl true, 0⟩, [⟨ownD x, 0⟩]) := fun x => by
      have g1 : fIsi "tuple" [⟨ownD x, 0⟩] = .ok ⟨.bl true, 0⟩ := rfl
      have g2 : fLen [⟨ownD x, 0⟩] = .ok ⟨.int 2, 0⟩ := rfl
      generalize ownD x = bx at *
      refine Ret.eq ?_
      simp (maxSteps := 2000000) -implicitDefEqProofs [-List.getD_eq_getElem?_getD, -own_cons, own_consB, ixT0, ixT1, ixT2, ixT3, ixT4, c__law_is_pair, m__law_is_pair, g1, g2]
    have h0 : ∀ x : List Nat × Nat, fIx [⟨ownD x, 0⟩, ⟨.int 0, 0⟩] = .ok ⟨nD x.1, 0⟩ := fun x => ixT (i := 0) rfl
    have h1 : ∀ x : List Nat × Nat, fIx [⟨ownD x, 0⟩, ⟨.int 1, 0⟩] = .ok ⟨.int (x.2 : Nat), 0⟩ := fun x => ixT (i := 1) rfl
    generalize trL h b p i = ts at *
    generalize D.tup (ts.map ownD) = td at *
    have eall := f_allM (l := ts) (f := fun _ => true)
    have eall' : (ts.all fun _ => true) = true := by simp
    rw [eall'] at eall
    simp (maxSteps := 2000000) -implicitDefEqProofs [-List.getD_eq_getElem?_getD, -own_cons, own_consB, ixT0, ixT1, ixT2, ixT3, ixT4, step1, b__law_are_truthful_3, e1, e3, e4]
    refine ⟨by omega, ?_⟩
    refine Ret_comp ts ownD (fun _ => .bl true) rfl (fun x hx => ?_) ?_
    · simp (maxSteps := 2000000) -implicitDefEqProofs [-List.getD_eq_getElem?_getD, -own_cons, own_consB, ixT0, ixT1, ixT2, ixT3, ixT4, comp1, e__law_are_truthful_1, hpair]
    · simp (maxSteps := 2000000) -implicitDefEqProofs [-List.getD_eq_getElem?_getD, -own_cons, own_consB, ixT0, ixT1, ixT2, ixT3, ixT4, eall, e4]
      refine ⟨by omega, ?_⟩
      refine Ret_comp ts ownD (fun _ => .bl true) rfl (fun x hx => ?_) ?_
      · have hxl := hxl x hx
        have e6 := is_ints_ok (is := upI x.1) (by rw [up_len]; omega)
        rw [← nD_up] at e6
        simp (maxSteps := 2000000) -implicitDefEqProofs [-List.getD_eq_getElem?_getD, -own_cons, own_consB, ixT0, ixT1, ixT2, ixT3, ixT4, comp1, e__law_are_truthful_2, h0, h1, eq_is_ints, eq_is_int, is_int_ok, e6]
      · simp (maxSteps := 2000000) -implicitDefEqProofs [-List.getD_eq_getElem?_getD, -own_cons, own_consB, ixT0, ixT1, ixT2, ixT3, ixT4, eall, e2, e5]
  · have hnn : ((b.getD p []).findSome? fun _ => (none : Option Cell)) = none := by simp
    rw [hnn]
    simp (maxSteps := 2000000) -implicitDefEqProofs [-List.getD_eq_getElem?_getD, -own_cons, own_consB, ixT0, ixT1, ixT2, ixT3, ixT4]
theorem law_asked36_ok {ss : List St36} (o : HrIn b h) (hs : ∀ s ∈ ss, s.length ≤ 10000) : c__law_asked_k36 [⟨Box.d b, 0⟩, ⟨h.d, 0⟩, ⟨.int (p : Int), 0⟩, ⟨.lst ((ownL h b p).map ownD), 1⟩, ⟨.lst (ss.map stD), 1⟩] = .ok (⟨.bl true, 0⟩, [⟨Box.d b, 0⟩, ⟨h.d, 0⟩, ⟨.int (p : Int), 0⟩, ⟨.lst ((ownL h b p).map ownD), 1⟩, ⟨.lst (ss.map stD), 1⟩]) := by
  have hol : (ownL h b p).length ≤ 10000 := by
    unfold ownL
    rw [List.length_map]
    have := ownN_len (p := p) o
    omega
  have e1 := fun (s : St36) hs => is_strategy_ok (p := p) (s := s) o hs
  have e2 := fun (s : St36) => law_judged_ok (s := s) (cons_own (h := h) (b := b) (p := p)) hol
  have e3 : ∀ b, fIsi "bool" [⟨.bl b, 0⟩] = .ok ⟨.bl true, 0⟩ := fun _ => rfl
  have e4 : itemsOf (.lst (ss.map stD)) = some (ss.map stD) := rfl
  generalize h.d = hd at *
  generalize D.lst ((ownL h b p).map ownD) = od at *
  generalize ownL h b p = O at *
  refine Ret.eq ?_
  simp (maxSteps := 2000000) -implicitDefEqProofs [-List.getD_eq_getElem?_getD, -own_cons, own_consB, ixT0, ixT1, ixT2, ixT3, ixT4, c__law_asked_k36, m__law_asked_k36]
  refine Ret_search ss stD [5, 6] (fun s => (none : Option Cell)) rfl (fun s jj hi => ?_) fun jj => ?_
  · have e1 := e1 s (hs s hi)
    have e2 := e2 s
    generalize stD s = sd at *
    have e5 : fNe [⟨.bl (judS O s), 0⟩, ⟨.bl (judS O s), 0⟩] = .ok ⟨.bl false, 0⟩ := f_neSelf rfl
    generalize judS O s = jb at *
    simp (maxSteps := 2000000) -implicitDefEqProofs [-List.getD_eq_getElem?_getD, -own_cons, own_consB, ixT0, ixT1, ixT2, ixT3, ixT4, step1, b__law_asked_k36_1, e1, e2, e3, e5]
  · have hnn : (ss.findSome? fun _ => (none : Option Cell)) = none := by simp
    rw [hnn]
    simp (maxSteps := 2000000) -implicitDefEqProofs [-List.getD_eq_getElem?_getD, -own_cons, own_consB, ixT0, ixT1, ixT2, ixT3, ixT4]
end
end S

namespace S
open Z PySem PySem.Spec PyProof.Rows L2
/-! W109: strategies as data; drawn pairs; paths from behind; near one pair. -/
def PrC (d : D) : Prop := ∃ (p : D) (i : Int), d = .tup [p, .int i] ∧ RowC p
def StC (d : D) : Prop := TupC 5000 PrC d
section
variable {O u : Own36} {s : St36} {p kd n : Nat} {x : List Nat × Box × Hr} {q : List Nat} {h z : Hr} {b : Box} {k k' : Nat} {rows : List (List Nat × Hr)} {l L : List D} {d a e v : D}
theorem prC : PutC PrC := by
  rintro d p i j ⟨x, m, rfl, h1⟩ hg
  cases p with
  | nil => rw [getAt_nil] at hg; cases hg
  | cons k q =>
    obtain ⟨l', z, e, hk, hg⟩ := getAt_cons hg
    cases e
    rw [putD_tup hk]
    match k, hk with
    | 0, hk => cases hk; exact ⟨_, m, rfl, rowC _ q i j h1 hg⟩
    | 1, hk =>
      cases hk
      cases q with
      | nil => exact ⟨x, j, by rw [putD_nil]; rfl, h1⟩
      | cons _ _ => cases hg
    | k + 2, hk => simp at hk
theorem stC : PutC StC := prC.tup
theorem PrC.ex (h : PrC d) : ∃ x : List Int × Int, d = pr36D x := by
  obtain ⟨p, i, rfl, h⟩ := h
  obtain ⟨K, rfl, _⟩ := h.ex
  exact ⟨(K, i), rfl⟩
theorem StC.ex (h : StC d) : ∃ s : St36, d = stD s ∧ s.length ≤ 5000 := by
  obtain ⟨l, rfl, h1, h2⟩ := h
  obtain ⟨s, rfl⟩ := map_of fun x hx => (h2 x hx).ex
  rw [List.length_map] at h1
  exact ⟨s, rfl, h1⟩
theorem StC.exL (h : ∀ x ∈ L, StC x) : ∃ ss : List St36, L = ss.map stD ∧ ∀ s ∈ ss, s.length ≤ 10000 := by
  obtain ⟨S, rfl⟩ := map_of (f := fun z : {s : St36 // s.length ≤ 5000} => stD z.1) fun x hx => by
    obtain ⟨s, e, hl⟩ := (h x hx).ex
    exact ⟨⟨s, hl⟩, e⟩
  refine ⟨S.map (·.1), by rw [List.map_map]; rfl, fun s hs => ?_⟩
  obtain ⟨z, _, rfl⟩ := List.mem_map.mp hs
  exact Nat.le_trans z.2 (by decide)
theorem PrC.mk {i : Int} (h : RowC a) : PrC (.tup [a, .int i]) := ⟨a, i, rfl, h⟩
theorem StC.nil : StC (.tup []) := ⟨[], rfl, by simp, fun x hx => by cases hx⟩
theorem StC.one (h : PrC a) : StC (.tup [a]) := ⟨[a], rfl, by simp, fun x hx => by rw [List.mem_singleton.mp hx]; exact h⟩
theorem StC.two (h : PrC a) (h2 : PrC e) : StC (.tup [a, e]) := ⟨[a, e], rfl, by simp, fun x hx => by
  rcases List.mem_cons.mp hx with rfl | hx
  · exact h
  · rw [List.mem_singleton.mp hx]; exact h2⟩
theorem RowC.nat (h : q.length ≤ 1000) : RowC (nD q) := RowC.mk nL_int (by simpa [nL] using h)
theorem ownD_C {x : List Nat × Nat} (h : x.1.length ≤ 1000) : PrC (ownD x) := PrC.mk (RowC.nat h)
/-- right strategies: they are small -/
structure Rt36 (u : Own36) : Prop where
  l : u.length ≤ 1000
  p : ∀ y ∈ u, y.1.length ≤ 28
  c : (u.map fun y => y.1.length + 4).sum ≤ 4000
theorem Rt36.st (h : Rt36 u) : StC (.tup (u.map ownD)) := ⟨_, rfl, by rw [List.length_map]; have := h.l; omega, fun x hx => by
  obtain ⟨y, hy, rfl⟩ := List.mem_map.mp hx
  exact ownD_C (by have := h.p y hy; omega)⟩
theorem law_drawn_pairs_r (hd : DSl l) (hO : ∀ y ∈ O, 0 < y.2 ∧ y.2 ≤ 1000) (hl : O.length ≤ 1000) {Q : Cell × List Cell → Prop} (kk : ∀ (u : Own36) (l' : List D), DSl l' → List.Sublist (u.map (·.1)) (O.map (·.1)) → Q (⟨.tup (u.map ownD), 0⟩, [⟨.lst l', 1⟩, ⟨.lst (O.map ownD), 1⟩])) : Ret (c__law_drawn_pairs [⟨.lst l, 1⟩, ⟨.lst (O.map ownD), 1⟩]) Q := by
  simp (maxSteps := 2000000) -implicitDefEqProofs [-List.getD_eq_getElem?_getD, -own_cons, own_consB, ixT0, ixT1, ixT2, ixT3, ixT4, c__law_drawn_pairs, m__law_drawn_pairs]
  refine Ret_for O ownD [3, 4] (fun (s : List D × Own36) ρ => (ρ.set 0 (some ⟨.lst s.1, 1⟩)).set 2 (some ⟨.lst (s.2.map ownD), 1⟩)) (fun done _ s => DSl s.1 ∧ List.Sublist (s.2.map (·.1)) (done.map (·.1))) (l, []) rfl (by rfl) ⟨hd, List.Sublist.refl _⟩ (fun done x rest s j e hI => ?_) fun s j hI => ?_
  · obtain ⟨l1, u⟩ := s
    obtain ⟨h1, h2⟩ := hI
    have h2 : List.Sublist (u.map (·.1)) (done.map (·.1)) := h2
    obtain ⟨g1, g2⟩ := hO x (by rw [e]; simp)
    have hul : u.length ≤ O.length := by
      have := h2.length_le
      rw [List.length_map, List.length_map] at this
      rw [e, List.length_append]
      omega
    simp (maxSteps := 2000000) -implicitDefEqProofs [-List.getD_eq_getElem?_getD, -own_cons, own_consB, ixT0, ixT1, ixT2, ixT3, ixT4, step1, b__law_drawn_pairs_1, ownD]
    refine Ret_draw (m := 4) h1 (by decide) (by decide) fun n l2 h2' hn => ?_
    by_cases hc : 0 < n
    · simp (maxSteps := 2000000) -implicitDefEqProofs [-List.getD_eq_getElem?_getD, -own_cons, own_consB, ixT0, ixT1, ixT2, ixT3, ixT4, hc, ownD]
      refine Ret_drawN h2' g1 (by omega) fun m l3 h3 hm => ?_
      simp (maxSteps := 2000000) -implicitDefEqProofs [-List.getD_eq_getElem?_getD, -own_cons, own_consB, ixT0, ixT1, ixT2, ixT3, ixT4]
      refine ⟨by omega, l3, u ++ [(x.1, m)], ?_, ?_⟩
      · exact ⟨by simp, by simp [ownD]⟩
      · refine ⟨h3, ?_⟩
        rw [List.map_append]
        exact h2.append (List.Sublist.refl _)
    · simp (maxSteps := 2000000) -implicitDefEqProofs [-List.getD_eq_getElem?_getD, -own_cons, own_consB, ixT0, ixT1, ixT2, ixT3, ixT4, hc, ownD]
      refine ⟨l2, u, ⟨rfl, rfl⟩, h2', ?_⟩
      exact h2.trans (List.sublist_append_left _ _)
  · obtain ⟨l1, u⟩ := s
    obtain ⟨h1, h2⟩ := hI
    have h2 : List.Sublist (u.map (·.1)) (O.map (·.1)) := h2
    have hul : u.length ≤ O.length := by
      have := h2.length_le
      rw [List.length_map, List.length_map] at this
      exact this
    simp (maxSteps := 2000000) -implicitDefEqProofs [-List.getD_eq_getElem?_getD, -own_cons, own_consB, ixT0, ixT1, ixT2, ixT3, ixT4]
    exact kk u l1 h1 h2
theorem at_take : ∀ {q : List Nat} {h : Hr} {k : Nat}, h.at q = some z → k < q.length → ∃ p rows, h.at (q.take k) = some (.ask p rows)
  | [], _, _, _, h => absurd h (by simp)
  | x :: q, h, 0, e, _ => by
    obtain ⟨p, rows, r, rfl, _, _⟩ := at_ask e
    exact ⟨p, rows, by unfold Hr.at; rfl⟩
  | x :: q, h, k + 1, e, hk => by
    obtain ⟨p, rows, r, rfl, h1, h2⟩ := at_ask e
    obtain ⟨p', rows', h3⟩ := at_take (k := k) h2 (by simpa using hk)
    refine ⟨p', rows', ?_⟩
    rw [List.take_succ_cons]
    unfold Hr.at
    rw [h1]
    exact h3
theorem law_from_behind_r (hd : DSl l) (ha : h.at q = some z) (hq : q.length ≤ 28) {Q : Cell × List Cell → Prop} (kk : ∀ (x : D) (l' : List D), DSl l' → RowC x → Q (⟨x, 0⟩, [⟨.lst l', 1⟩, ⟨h.d, 0⟩, ⟨nD q, 0⟩])) : Ret (c__law_from_behind [⟨.lst l, 1⟩, ⟨h.d, 0⟩, ⟨nD q, 0⟩]) Q := by
  have hn : nD q = iD (upI q) := nD_up
  have hul : (upI q).length = q.length := up_len
  have hpre : ∀ k, k < q.length → ∃ nd : D, c__law_node_k36 [⟨h.d, 0⟩, ⟨iD ((upI q).take k), 0⟩] = .ok (⟨nd, 0⟩, [⟨h.d, 0⟩, ⟨iD ((upI q).take k), 0⟩]) ∧ ∃ rd : D, ∃ m : Nat, fIx [⟨nd, 0⟩, ⟨.int 2, 0⟩] = .ok ⟨rd, 0⟩ ∧ fLen [⟨rd, 0⟩] = .ok ⟨.int (m : Int), 0⟩ := fun k hk => by
    obtain ⟨p, rows, e⟩ := at_take ha hk
    have e1 := law_node36_ok e
    have e2 : iD ((upI q).take k) = nD (q.take k) := by
      rw [nD_up]
      unfold upI
      rw [List.map_take]
    rw [e2]
    exact ⟨_, e1, _, _, (ask_ix (p := p) (rows := rows) (k := 0)).2.2, rows_len⟩
  rw [hn] at kk ⊢
  generalize h.d = hd' at *
  by_cases hc : q = []
  · subst hc
    have ht : truth (iD (upI [])) = some false := rfl
    generalize hup : iD (upI []) = ud at *
    simp (maxSteps := 2000000) -implicitDefEqProofs [-List.getD_eq_getElem?_getD, -own_cons, own_consB, ixT0, ixT1, ixT2, ixT3, ixT4, c__law_from_behind, m__law_from_behind, ht]
    exact kk _ l hd (RowC.of (K := [-1]) (by simp))
  · have hpos := List.length_pos_iff.mpr hc
    have ht : truth (iD (upI q)) = some true := by
      cases q with
      | nil => exact absurd rfl hc
      | cons a r => rfl
    have elen : fLen [⟨iD (upI q), 0⟩] = .ok ⟨.int (q.length : Nat), 0⟩ := by rw [lenIi, hul]
    have ecut := fun k (hk : k ≤ q.length) => cutI (K := upI q) (k := k) (by omega)
    have ecutF := fun k (hk : k ≤ q.length) => cutIf (K := upI q) (k := k) (by omega)
    have eix := fun k (hk : k < q.length) => ixI0 (r := upI q) (k := 0) (k' := 0) (p := k) (by omega)
    generalize hup : upI q = U at *
    generalize hud : iD U = ud at *
    simp (maxSteps := 2000000) -implicitDefEqProofs [-List.getD_eq_getElem?_getD, -own_cons, own_consB, ixT0, ixT1, ixT2, ixT3, ixT4, c__law_from_behind, m__law_from_behind, ht, elen]
    refine Ret_drawN hd (by omega) (by omega) fun k l2 h2 hk => ?_
    obtain ⟨nd, e1, rd, m, e2, e3⟩ := hpre k hk
    have c1 := ecut k (by omega)
    have c2 := ecutF (k + 1) (by omega)
    have c3 := eix k hk
    rw [show ((k + 1 : Nat) : Int) = (k : Int) + 1 by omega] at c2
    generalize hv : U.getD k 0 = ui at *
    have e4 : ∀ i : Int, fAdd [⟨iD (U.take k), 0⟩, ⟨.tup [.int i], 0⟩] = .ok ⟨iD (U.take k ++ [i]), 0⟩ := fun i => by
      have := addT (a := (U.take k).map D.int) (b := [D.int i]) (k := 0) (k' := 0) (by rw [List.length_map, List.length_take]; simp; omega)
      rw [show (U.take k).map D.int ++ [D.int i] = (U.take k ++ [i]).map D.int by simp] at this
      exact this
    have e5 : ∀ i : Int, fAdd [⟨iD (U.take k ++ [i]), 0⟩, ⟨iD (U.drop (k + 1)), 0⟩] = .ok ⟨iD (U.take k ++ [i] ++ U.drop (k + 1)), 0⟩ := fun i => by
      have := addT (a := (U.take k ++ [i]).map D.int) (b := (U.drop (k + 1)).map D.int) (k := 0) (k' := 0) (by rw [List.length_map, List.length_append, List.length_take, List.length_map, List.length_drop]; simp; omega)
      rw [← List.map_append] at this
      exact this
    have hfin : ∀ i : Int, (U.take k ++ [i] ++ U.drop (k + 1)).length ≤ 1000 := fun i => by
      simp only [List.length_append, List.length_take, List.length_drop, List.length_singleton]
      omega
    have hks : U.take k ++ [ui - (m : Int)] ++ U.drop (k + 1) = U.take k ++ [ui - (m : Int)] ++ U.drop (k + 1) := rfl
    generalize hA : U.take k = A at *
    generalize U.drop (k + 1) = B at *
    simp (maxSteps := 2000000) -implicitDefEqProofs [-List.getD_eq_getElem?_getD, -own_cons, own_consB, ixT0, ixT1, ixT2, ixT3, ixT4, c1, c2, c3, e1, e2, e3, e4, e5]
    exact kk _ l2 h2 (RowC.of (by have := hfin (ui - (m : Int)); simpa using this))
end
end S

namespace S
open Z PySem PySem.Spec PyProof.Rows L2
/-! W110: things near one pair; things near right strategies. -/
section
variable {O u : Own36} {s : St36} {p kd m : Nat} {x : List Nat × Box × Hr} {q : List Nat} {h z : Hr} {b : Box} {k k' : Nat} {rows : List (List Nat × Hr)} {l L R : List D} {d a e v : D}
theorem cut_m1 : fSl ⟨.tup l, 0⟩ none (some (-1)) = .ok ⟨.tup (l.take (l.length - 1)), 0⟩ := by
  cases l with
  | nil => rfl
  | cons a r => exact sl_m1 (by simp)
theorem law_near_one_r (hd : DSl l) (ha : h.at q = some z) (hq : q.length ≤ 28) (hm : m ≤ 1000) {Q : Cell × List Cell → Prop} (kk : ∀ (xs l' : List D), DSl l' → (∀ x ∈ xs, StC x) → xs.length ≤ 12 → Q (⟨.lst xs, 1⟩, [⟨.lst l', 1⟩, ⟨h.d, 0⟩, ⟨nD q, 0⟩, ⟨.int (m : Int), 0⟩])) : Ret (c__law_near_one [⟨.lst l, 1⟩, ⟨h.d, 0⟩, ⟨nD q, 0⟩, ⟨.int (m : Int), 0⟩]) Q := by
  have ep : fPow [⟨.int 10, 0⟩, ⟨.int 18, 0⟩] = .ok ⟨.int 1000000000000000000, 0⟩ := p_pow (show cpow 10 18 = true from rfl)
  have hb := fun {Q} kk => law_from_behind_r (Q := Q) hd ha hq kk
  have hql : (nL q).length ≤ 28 := by simpa [nL] using hq
  have hqi := nL_int (ks := q)
  have hnq : nD q = .tup (nL q) := rfl
  rw [hnq] at kk ⊢
  simp only [hnq] at hb
  generalize nL q = N at *
  generalize h.d = hd' at *
  have e1 : ∀ i : Int, fAdd [⟨.tup N, 0⟩, ⟨.tup [.int i], 0⟩] = .ok ⟨.tup (N ++ [.int i]), 0⟩ := fun i => addT (by simp; omega)
  have e2 := cut_m1 (l := N)
  have r0 : RowC (.tup N) := RowC.mk hqi (by omega)
  have r1 : ∀ i : Int, RowC (.tup (N ++ [.int i])) := fun i => RowC.mk (fun x hx => (List.mem_append.mp hx).elim (hqi x) fun h => by rw [List.mem_singleton.mp h]; exact IntC.i) (by rw [List.length_append, List.length_singleton]; omega)
  have r2 : RowC (.tup (N.take (N.length - 1))) := RowC.mk (fun x hx => hqi x (List.mem_of_mem_take hx)) (by rw [List.length_take]; omega)
  generalize N.take (N.length - 1) = N' at *
  have hA : ∀ i : Int, N ++ [D.int i] = N ++ [D.int i] := fun _ => rfl
  simp (maxSteps := 2000000) -implicitDefEqProofs [-List.getD_eq_getElem?_getD, -own_cons, own_consB, ixT0, ixT1, ixT2, ixT3, ixT4, c__law_near_one, m__law_near_one, ep, e1, e2]
  refine hb fun xb l2 h2 hxb => ?_
  simp (maxSteps := 2000000) -implicitDefEqProofs [-List.getD_eq_getElem?_getD, -own_cons, own_consB, ixT0, ixT1, ixT2, ixT3, ixT4, ep, e1]
  refine kk _ l2 h2 (fun x hx => ?_) (by simp)
  simp only [List.mem_append, List.mem_cons, List.not_mem_nil, or_false] at hx
  rcases hx with rfl | rfl | rfl | rfl | rfl | rfl | rfl | rfl | rfl | rfl | rfl | rfl
  · exact StC.one (PrC.mk r0)
  · exact StC.one (PrC.mk r0)
  · exact StC.one (PrC.mk r0)
  · exact StC.one (PrC.mk r0)
  · exact StC.one (PrC.mk r0)
  · exact StC.two (PrC.mk r0) (PrC.mk r0)
  · exact StC.two (PrC.mk r0) (PrC.mk r0)
  · exact StC.one (PrC.mk (r1 _))
  · exact StC.one (PrC.mk (r1 _))
  · exact StC.one (PrC.mk r2)
  · exact StC.one (PrC.mk hxb)
  · exact StC.two (PrC.mk r0) (PrC.mk (r1 _))
/-! lists of pairs -/
def PL (n : Nat) (L : List D) : Prop := L.length ≤ n ∧ ∀ x ∈ L, PrC x
theorem PL.st {n : Nat} (h : PL n L) (hn : n ≤ 5000) : StC (.tup L) := ⟨L, rfl, by have := h.1; omega, h.2⟩
theorem PL.app {n m : Nat} {A B : List D} (h : PL n A) (h2 : PL m B) : PL (n + m) (A ++ B) := ⟨by rw [List.length_append]; have := h.1; have := h2.1; omega, fun x hx => (List.mem_append.mp hx).elim (h.2 x) (h2.2 x)⟩
theorem PL.one (h : PrC a) : PL 1 [a] := ⟨Nat.le_refl _, fun x hx => by rw [List.mem_singleton.mp hx]; exact h⟩
theorem PL.cons {n : Nat} (h : PrC a) (h2 : PL n L) : PL (n + 1) (a :: L) := ⟨by rw [List.length_cons]; have := h2.1; omega, fun x hx => (List.mem_cons.mp hx).elim (fun e => by rw [e]; exact h) (h2.2 x)⟩
theorem PL.cut {n : Nat} (h : PL n L) (x y : Option Int) : PL n (Z.cutD L x y) := by
  unfold Z.cutD
  refine ⟨by rw [List.length_take, List.length_drop]; have := h.1; omega, fun z hz => h.2 z (List.mem_of_mem_drop (List.mem_of_mem_take hz))⟩
theorem PL.perm {n : Nat} {A : List D} (h : PL n L) (hp : A.Perm L) : PL n A := ⟨by rw [hp.length_eq]; exact h.1, fun x hx => h.2 x (hp.mem_iff.mp hx)⟩
theorem nkL36 : ∀ {l : List D}, D.nkL l = l.map D.nk
  | [] => rfl
  | a :: r => by rw [List.map_cons, ← nkL36]; rfl
theorem sort_pr {n : Nat} (h : PL n L) (hne : L ≠ []) : fSortKT [⟨.tup L, 0⟩] = .ok ⟨.lst (ksort L), 1⟩ ∧ PL n (ksort L) := by
  refine ⟨?_, h.perm ksort_perm⟩
  cases hL : L with
  | nil => exact absurd hL hne
  | cons a r =>
    rw [← hL]
    have hkey : ∀ x ∈ L, x.kn 9 = true ∧ (Shp.fix [.seq .num, .num]).fits x.nk = true ∧ x.begins = some false ∧ Shp.of x = .fix [.seq .num, .num] := fun x hx => by
      obtain ⟨p, i, rfl, hp⟩ := h.2 x hx
      obtain ⟨K, rfl, _⟩ := hp.ex
      have k1 : (iD K).kn 8 = true := by
        show (K.map D.int).all (D.kn 7) = true
        rw [List.all_eq_true]
        intro d hd
        obtain ⟨i, _, rfl⟩ := List.mem_map.mp hd
        rfl
      have k2 : (Shp.seq .num).fits (iD K).nk = true := by
        show ((D.nkL (K.map D.int)).all fun k => Shp.num.fits k) = true
        rw [nkL36, List.all_eq_true]
        intro d hd
        obtain ⟨x, hx, rfl⟩ := List.mem_map.mp hd
        obtain ⟨i, _, rfl⟩ := List.mem_map.mp hx
        simp [D.nk, Shp.fits]
      have k3 : Shp.of (iD K) = .seq .num := by
        unfold iD Shp.of
        rw [if_pos]
        rw [List.all_eq_true]
        intro d hd
        obtain ⟨i, _, rfl⟩ := List.mem_map.mp hd
        rfl
      refine ⟨?_, ?_, rfl, ?_⟩
      · show ((iD K).kn 8 && ((D.int i).kn 8 && true)) = true
        rw [k1]
        rfl
      · show ((Shp.seq .num).fits (iD K).nk && (Shp.num.fits (D.int i).nk && true)) = true
        rw [k2]
        rfl
      · have : Shp.ofL [iD K, D.int i] = [.seq .num, .num] := by
          simp only [Shp.ofL, k3]
          rfl
        rw [← this]
        rfl
    have ha := hkey a (by rw [hL]; simp)
    have hk : keysOk (.fix [.seq .num, .num]) false L = true := by
      unfold keysOk
      rw [List.all_eq_true]
      intro d hd
      obtain ⟨h1, h2, h3, _⟩ := hkey d hd
      rw [h1, h2, h3]
      rfl
    unfold fSortKT
    have e1 : L.head?.bind D.begins = some false := by rw [hL]; exact ha.2.2.1
    have e2 : Shp.of (L.headD .non) = .fix [.seq .num, .num] := by rw [hL]; exact ha.2.2.2
    show (match L.head?.bind D.begins with
      | some b => if keysOk (Shp.of (L.headD .non)) b L then Z.R.ok (⟨.lst (ksort L), 1⟩ : Cell) else .bad
      | none => .bad) = _
    rw [e1, e2]
    dsimp only
    rw [if_pos hk]
end
end S

namespace S
open Z PySem PySem.Spec PyProof.Rows L2
/-! W111: things near right strategies. -/
/-- a hearing's questions to a person, as own -/
structure Own1 (h : Hr) (O : Own36) : Prop where
  a : ∀ y ∈ O, ∃ z, h.at y.1 = some z
  l : ∀ y ∈ O, y.1.length ≤ 28
  m : ∀ y ∈ O, 0 < y.2 ∧ y.2 ≤ 8
  n : O.length ≤ 1000
section
variable {O u : Own36} {s : St36} {p kd m : Nat} {x : List Nat × Box × Hr} {q : List Nat} {h z : Hr} {b : Box} {k k' : Nat} {rows : List (List Nat × Hr)} {l L R : List D} {d a e v : D} {ps : List (List Nat)}
theorem StL.app {fl : List D} (h : ∀ x ∈ fl, StC x) (h2 : StC v) : ∀ x ∈ fl ++ [v], StC x := fun x hx => (List.mem_append.mp hx).elim (h x) fun e => by rw [List.mem_singleton.mp e]; exact h2
theorem pr_parts (h : PrC a) : ∃ (p : D) (i : Int), a = .tup [p, .int i] ∧ RowC p ∧ fIx [⟨a, 0⟩, ⟨.int 0, 0⟩] = .ok ⟨p, 0⟩ ∧ fIx [⟨a, 0⟩, ⟨.int 1, 0⟩] = .ok ⟨.int i, 0⟩ := by
  obtain ⟨p, i, rfl, hp⟩ := h
  exact ⟨p, i, rfl, hp, ixT (i := 0) rfl, ixT (i := 1) rfl⟩
theorem PL.at {n : Nat} (h : PL n L) (hk : k < L.length) : ∃ a, fIx [⟨.tup L, 0⟩, ⟨.int (k : Int), 0⟩] = .ok ⟨a, 0⟩ ∧ PrC a := ⟨L[k], ixT (List.getElem?_eq_getElem hk), h.2 _ (List.getElem_mem _)⟩
theorem ixT_last (hk : 0 < L.length) (e : L[L.length - 1]? = some a) : fIx [⟨.tup L, k⟩, ⟨.int (-1), k'⟩] = .ok ⟨a, 0⟩ := by
  have e2 : atI L (-1) = some a := by
    have e1 : ixN L.length (-1) = some (L.length - 1) := by
      unfold ixN
      simp
      omega
    unfold atI
    rw [e1]
    exact e
  exact p_ixT e2
theorem PL.last {n : Nat} (h : PL n L) (hk : 0 < L.length) : ∃ a, fIx [⟨.tup L, 0⟩, ⟨.int (-1), 0⟩] = .ok ⟨a, 0⟩ ∧ PrC a := by
  have e : fIx [⟨.tup L, 0⟩, ⟨.int (-1), 0⟩] = .ok ⟨L[L.length - 1], 0⟩ := by
    have e1 := List.getElem?_eq_getElem (show L.length - 1 < L.length by omega)
    exact ixT_last hk e1
  exact ⟨_, e, h.2 _ (List.getElem_mem _)⟩
theorem law_near_k36_r (hd : DSl l) (ho : Own1 h O) (hps : ps ≠ []) (hpl : ps.length ≤ 5000) (hp28 : ∀ q ∈ ps, q.length ≤ 28) (hR : PL 1000 R) (hRp : (D.tup R).pl 3 = true) (hcn : cnD (.tup R) ≤ 5000) {Q : Cell × List Cell → Prop} (kk : ∀ (xs l' : List D), DSl l' → (∀ x ∈ xs, StC x) → xs.length ≤ 60 → Q (⟨.lst xs, 1⟩, [⟨.lst l', 1⟩, ⟨h.d, 0⟩, ⟨.lst (O.map ownD), 1⟩, ⟨.lst (ps.map nD), 1⟩, ⟨.tup R, 0⟩])) : Ret (c__law_near_k36 [⟨.lst l, 1⟩, ⟨h.d, 0⟩, ⟨.lst (O.map ownD), 1⟩, ⟨.lst (ps.map nD), 1⟩, ⟨.tup R, 0⟩]) Q := by
  have ep : fPow [⟨.int 10, 0⟩, ⟨.int 18, 0⟩] = .ok ⟨.int 1000000000000000000, 0⟩ := p_pow (show cpow 10 18 = true from rfl)
  have hone := fun {l : List D} (y : List Nat × Nat) (hy : y ∈ O) (hd : DSl l) {Q} kk => law_near_one_r (Q := Q) (m := y.2) hd (ho.a y hy).choose_spec (ho.l y hy) (by have := ho.m y hy; omega) kk
  have hbeh := fun {l : List D} (y : List Nat × Nat) (hy : y ∈ O) (hd : DSl l) {Q} kk => law_from_behind_r (Q := Q) hd (ho.a y hy).choose_spec (ho.l y hy) kk
  have hspo := fun {l : List D} (hd : DSl l) {Q} kk => law_spoiltD_r (Q := Q) hd hRp (by decide) hcn kk
  have hadd : ∀ a : D, fAdd [⟨.tup R, 0⟩, ⟨.tup [a], 0⟩] = .ok ⟨.tup (R ++ [a]), 0⟩ := fun a => addT (by have := hR.1; simp; omega)
  have hRst : StC (.tup R) := hR.st (by decide)
  have hpos := List.length_pos_iff.mpr hps
  have hsrt : ∀ a, PrC a → fSortKT [⟨.tup (R ++ [a]), 0⟩] = .ok ⟨.lst (ksort (R ++ [a])), 1⟩ ∧ StC (.tup (ksort (R ++ [a]))) := fun a ha => by
    obtain ⟨h1, h2⟩ := sort_pr (hR.app (PL.one ha)) (by simp)
    exact ⟨h1, h2.st (by decide)⟩
  have hr18 : ∀ i : Int, PrC (.tup [.tup [.int i], .int 0]) := fun i => PrC.mk (RowC.of (K := [i]) (by simp))
  simp (maxSteps := 2000000) -implicitDefEqProofs [-List.getD_eq_getElem?_getD, -own_cons, own_consB, ixT0, ixT1, ixT2, ixT3, ixT4, c__law_near_k36, m__law_near_k36]
  refine pick_map (xs := ps) (f := nD) (by decide) hd hpos hpl fun oth l2 hoth h2 => ?_
  have hor : RowC (nD oth) := RowC.nat (by have := hp28 oth hoth; omega)
  simp (maxSteps := 2000000) -implicitDefEqProofs [-List.getD_eq_getElem?_getD, -own_cons, own_consB, ixT0, ixT1, ixT2, ixT3, ixT4, ep, hadd]
  refine Ret_draw (m := 3) h2 (by decide) (by decide) fun n3 l3 h3 hn3 => ?_
  obtain ⟨s1, s2⟩ := hsrt (.tup [nD oth, .int (n3 : Int)]) (PrC.mk hor)
  simp (maxSteps := 2000000) -implicitDefEqProofs [-List.getD_eq_getElem?_getD, -own_cons, own_consB, ixT0, ixT1, ixT2, ixT3, ixT4, hadd, s1]
  have hfl : ∀ x ∈ [D.tup [], D.tup R, D.tup (R ++ [D.tup [nD oth, D.int 0]]), D.tup [D.tup [D.tup [D.int 1000000000000000000], D.int 0]], D.tup [D.tup [D.tup [D.int (-1000000000000000000)], D.int 0]], D.tup (ksort (R ++ [D.tup [nD oth, D.int (n3 : Int)]]))], StC x := fun x hx => by
    simp only [List.mem_cons, List.not_mem_nil, or_false] at hx
    rcases hx with rfl | rfl | rfl | rfl | rfl | rfl
    · exact StC.nil
    · exact hRst
    · exact (hR.app (PL.one (PrC.mk hor))).st (by decide)
    · exact StC.one (hr18 _)
    · exact StC.one (hr18 _)
    · exact s2
  have hfll : [D.tup [], D.tup R, D.tup (R ++ [D.tup [nD oth, D.int 0]]), D.tup [D.tup [D.tup [D.int 1000000000000000000], D.int 0]], D.tup [D.tup [D.tup [D.int (-1000000000000000000)], D.int 0]], D.tup (ksort (R ++ [D.tup [nD oth, D.int (n3 : Int)]]))].length ≤ 6 := Nat.le_refl _
  generalize [D.tup [], D.tup R, D.tup (R ++ [D.tup [nD oth, D.int 0]]), D.tup [D.tup [D.tup [D.int 1000000000000000000], D.int 0]], D.tup [D.tup [D.tup [D.int (-1000000000000000000)], D.int 0]], D.tup (ksort (R ++ [D.tup [nD oth, D.int (n3 : Int)]]))] = fl at *
  generalize h.d = hd' at *
  generalize D.lst (ps.map nD) = psd at *
  generalize nD oth = od at *
  refine Ret.mono (P := fun a => ∃ (fl l' : List D) (c7 c8 : Option Cell), DSl l' ∧ (∀ x ∈ fl, StC x) ∧ fl.length ≤ 20 ∧ a = (Fl.next, [some ⟨.lst l', 1⟩, some ⟨hd', 0⟩, some ⟨.lst (O.map ownD), 1⟩, some ⟨psd, 1⟩, some ⟨.tup R, 0⟩, some ⟨od, 0⟩, some ⟨.lst fl, 1⟩, c7, c8, none])) ?_ ?_
  · by_cases hO : O = []
    · subst hO
      simp (maxSteps := 2000000) -implicitDefEqProofs [-List.getD_eq_getElem?_getD, -own_cons, own_consB, ixT0, ixT1, ixT2, ixT3, ixT4]
      exact ⟨fl, l3, h3, hfl, by omega, rfl, rfl⟩
    · have hpO := List.length_pos_iff.mpr hO
      have hOn := ho.n
      simp (maxSteps := 2000000) -implicitDefEqProofs [-List.getD_eq_getElem?_getD, -own_cons, own_consB, ixT0, ixT1, ixT2, ixT3, ixT4, hO]
      refine pick_map (xs := O) (f := ownD) (by decide) h3 hpO (by omega) fun y l4 hy h4 => ?_
      simp (maxSteps := 2000000) -implicitDefEqProofs [-List.getD_eq_getElem?_getD, -own_cons, own_consB, ixT0, ixT1, ixT2, ixT3, ixT4, ownD]
      refine hone y hy h4 fun xs l5 h5 hxs hxl => ?_
      simp (maxSteps := 2000000) -implicitDefEqProofs [-List.getD_eq_getElem?_getD, -own_cons, own_consB, ixT0, ixT1, ixT2, ixT3, ixT4]
      refine ⟨by omega, ?_⟩
      refine hbeh y hy h5 fun pb l6 h6 hpb => ?_
      obtain ⟨s3, s4⟩ := hsrt (.tup [pb, .int 0]) (PrC.mk hpb)
      simp (maxSteps := 2000000) -implicitDefEqProofs [-List.getD_eq_getElem?_getD, -own_cons, own_consB, ixT0, ixT1, ixT2, ixT3, ixT4, hadd, s3]
      refine ⟨by omega, _, l6, h6, fun x hx => ?_, ?_, rfl, rfl⟩
      · rcases List.mem_append.mp hx with hx | hx
        · exact hfl x hx
        · rcases List.mem_append.mp hx with hx | hx
          · exact hxs x hx
          · rw [List.mem_singleton.mp hx]
            exact s4
      · simp only [List.length_append, List.length_singleton]
        omega
  · rintro a ⟨fl, l4, c7, c8, h4, hfl, hfll, rfl⟩
    simp (maxSteps := 2000000) -implicitDefEqProofs [-List.getD_eq_getElem?_getD, -own_cons, own_consB, ixT0, ixT1, ixT2, ixT3, ixT4]
    refine Ret.mono (P := fun a => ∃ (fl l' : List D) (c9 : Option Cell), DSl l' ∧ (∀ x ∈ fl, StC x) ∧ fl.length ≤ 24 ∧ ownB c9 = true ∧ a = (Fl.next, [some ⟨.lst l', 1⟩, some ⟨hd', 0⟩, some ⟨.lst (O.map ownD), 1⟩, some ⟨psd, 1⟩, some ⟨.tup R, 0⟩, some ⟨od, 0⟩, some ⟨.lst fl, 1⟩, c7, c8, c9])) ?_ ?_
    · have hRl := hR.1
      by_cases hc : 0 < R.length
      · simp (maxSteps := 2000000) -implicitDefEqProofs [-List.getD_eq_getElem?_getD, -own_cons, own_consB, ixT0, ixT1, ixT2, ixT3, ixT4, hc]
        refine Ret_drawN h4 hc (by omega) fun k l5 h5 hk => ?_
        obtain ⟨ak, e1, e2⟩ := hR.at hk
        obtain ⟨pk, ik, e3, e4, e5, e6⟩ := pr_parts e2
        have u1 := hR.cut none (some (k : Int))
        have u2 := hR.cut (some ((k : Int) + 1)) none
        have u3 := hR.cut none (some ((k : Int) + 1))
        have u4 := hR.cut (some (k : Int)) none
        simp (maxSteps := 2000000) -implicitDefEqProofs [-List.getD_eq_getElem?_getD, -own_cons, own_consB, ixT0, ixT1, ixT2, ixT3, ixT4, e1, e5, e6]
        generalize Z.cutD R none (some (k : Int)) = A1 at *
        generalize Z.cutD R (some ((k : Int) + 1)) none = A2 at *
        generalize Z.cutD R none (some ((k : Int) + 1)) = A3 at *
        generalize Z.cutD R (some (k : Int)) none = A4 at *
        have v1 := (u1.app u2).st (by decide)
        have v2 := (u3.app u4).st (by decide)
        have v3 := (hR.app (PL.one e2)).st (by decide)
        have v4 := (u1.app (PL.cons (PrC.mk (i := ik + 1) e4) u2)).st (by decide)
        have w1 := u1.1
        have w2 := u2.1
        have w3 := u3.1
        have w4 := u4.1
        refine ⟨by omega, by omega, by omega, by omega, by omega, by omega, by omega, by omega, by omega, _, l5, h5, fun x hx => ?_, ?_, _, ?_, rfl, rfl, rfl⟩
        · rcases List.mem_append.mp hx with hx | hx
          · exact hfl x hx
          · simp only [List.mem_cons, List.not_mem_nil, or_false] at hx
            rcases hx with rfl | rfl | rfl | rfl
            · exact v1
            · exact v2
            · exact v3
            · exact v4
        · simp only [List.length_append, List.length_cons, List.length_nil]
          omega
        · rfl
      · simp (maxSteps := 2000000) -implicitDefEqProofs [-List.getD_eq_getElem?_getD, -own_cons, own_consB, ixT0, ixT1, ixT2, ixT3, ixT4, hc]
        exact ⟨fl, l4, h4, hfl, by omega, none, rfl, rfl, rfl, rfl⟩
    · rintro a ⟨fl, l4, c9, h4, hfl, hfll, hz, rfl⟩
      simp (maxSteps := 2000000) -implicitDefEqProofs [-List.getD_eq_getElem?_getD, -own_cons, own_consB, ixT0, ixT1, ixT2, ixT3, ixT4]
      refine Ret.mono (P := fun a => ∃ (fl l' : List D) (c9 : Option Cell), DSl l' ∧ (∀ x ∈ fl, StC x) ∧ fl.length ≤ 27 ∧ ownB c9 = true ∧ a = (Fl.next, [some ⟨.lst l', 1⟩, some ⟨hd', 0⟩, some ⟨.lst (O.map ownD), 1⟩, some ⟨psd, 1⟩, some ⟨.tup R, 0⟩, some ⟨od, 0⟩, some ⟨.lst fl, 1⟩, c7, c8, c9])) ?_ ?_
      · have hRl := hR.1
        by_cases hc : 1 < R.length
        · have hc' : ((1 : Int) < (R.length : Int)) = True := eq_true (by omega)
          simp (maxSteps := 2000000) -implicitDefEqProofs [-List.getD_eq_getElem?_getD, -own_cons, own_consB, ixT0, ixT1, ixT2, ixT3, ixT4, hc, hc']
          rw [show (R.length : Int) - 1 = ((R.length - 1 : Nat) : Int) by omega]
          refine Ret_drawN h4 (by omega) (by omega) fun k l5 h5 hk => ?_
          obtain ⟨ak, e1, e2⟩ := hR.at (show k < R.length by omega)
          obtain ⟨pk, ik, e3, e4, e5, e6⟩ := pr_parts e2
          obtain ⟨an, f1, f2⟩ := hR.at (show k + 1 < R.length by omega)
          obtain ⟨pn, i_n, f3, f4, f5, f6⟩ := pr_parts f2
          obtain ⟨a0, g1, g2⟩ := hR.at (show 0 < R.length by omega)
          obtain ⟨al, g3, g4⟩ := hR.last (show 0 < R.length by omega)
          rw [show ((k + 1 : Nat) : Int) = (k : Int) + 1 by omega] at f1
          rw [show ((0 : Nat) : Int) = 0 by omega] at g1
          have u1 := hR.cut none (some (k : Int))
          have u2 := hR.cut (some ((k : Int) + 2)) none
          have u3 := hR.cut (some 1) (some (-1))
          simp (maxSteps := 2000000) -implicitDefEqProofs [-List.getD_eq_getElem?_getD, -own_cons, own_consB, ixT0, ixT1, ixT2, ixT3, ixT4, e1, e5, e6, f1, f5, f6, g1, g3]
          generalize Z.cutD R none (some (k : Int)) = A1 at *
          generalize Z.cutD R (some ((k : Int) + 2)) none = A2 at *
          generalize Z.cutD R (some 1) (some (-1)) = A3 at *
          have w1 := u1.1
          have w2 := u2.1
          have w3 := u3.1
          have v1 := (u1.app (PL.cons f2 (PL.cons e2 u2))).st (by decide)
          have v2 := (PL.cons g4 (u3.app (PL.one g2))).st (by decide)
          have v3 := (u1.app (PL.cons (PrC.mk (i := i_n) e4) (PL.cons (PrC.mk (i := ik) f4) u2))).st (by decide)
          refine ⟨by omega, by omega, by omega, by omega, by omega, by omega, by omega, by omega, by omega, _, l5, h5, fun x hx => ?_, ?_, _, ?_, rfl, rfl, rfl⟩
          · rcases List.mem_append.mp hx with hx | hx
            · exact hfl x hx
            · simp only [List.mem_cons, List.not_mem_nil, or_false] at hx
              rcases hx with rfl | rfl | rfl
              · exact v1
              · exact v2
              · exact v3
          · simp only [List.length_append, List.length_cons, List.length_nil]
            omega
          · rfl
        · have hc' : ((1 : Int) < (R.length : Int)) = False := eq_false (by omega)
          simp (maxSteps := 2000000) -implicitDefEqProofs [-List.getD_eq_getElem?_getD, -own_cons, own_consB, ixT0, ixT1, ixT2, ixT3, ixT4, hc, hc']
          exact ⟨fl, l4, h4, hfl, by omega, c9, hz, rfl, rfl, rfl⟩
      · rintro a ⟨fl, l4, c9, h4, hfl, hfll, hz, rfl⟩
        have e6 : rgD 0 4 = (List.range 4).map fun (i : Nat) => D.int (i : Int) := rgD_nat' (n := 4)
        have b6 : rgB 0 4 = true := rfl
        simp (maxSteps := 2000000) -implicitDefEqProofs [-List.getD_eq_getElem?_getD, -own_cons, own_consB, ixT0, ixT1, ixT2, ixT3, ixT4, e6, b6]
        refine ⟨hz, ?_⟩
        refine Ret_compS (List.range 4) (fun (i : Nat) => D.int (i : Int)) (fun d => d) (fun (s : List D) ρ => ρ.set 0 (some ⟨.lst s, 1⟩)) (fun done _ s acc => DSl s ∧ acc.length = done.length ∧ ∀ x ∈ acc, StC x) l4 rfl rfl ⟨h4, rfl, by simp⟩ (fun done x rest s acc e hI => ?_) fun s acc hI => ?_
        · obtain ⟨i1, i2, i3⟩ := hI
          simp (maxSteps := 2000000) -implicitDefEqProofs [-List.getD_eq_getElem?_getD, -own_cons, own_consB, ixT0, ixT1, ixT2, ixT3, ixT4, comp1, e__law_near_k36_1]
          refine hspo i1 fun y l5 h5 hy => ?_
          simp (maxSteps := 2000000) -implicitDefEqProofs [-List.getD_eq_getElem?_getD, -own_cons, own_consB, ixT0, ixT1, ixT2, ixT3, ixT4]
          refine ⟨h5, i2, fun x hx => ?_⟩
          rcases hx with hx | rfl
          · exact i3 x hx
          · rcases hy with rfl | ⟨p, i, j, hg, rfl⟩
            · exact hRst
            · exact stC _ p i j hRst hg
        · obtain ⟨i1, i2, i3⟩ := hI
          rw [List.length_range] at i2
          simp (maxSteps := 2000000) -implicitDefEqProofs [-List.getD_eq_getElem?_getD, -own_cons, own_consB, ixT0, ixT1, ixT2, ixT3, ixT4]
          refine ⟨by omega, kk _ s i1 (fun x hx => ?_) (by rw [List.length_append]; omega)⟩
          rcases List.mem_append.mp hx with hx | hx
          · exact hfl x hx
          · exact i3 x hx
end
end S

namespace S
open Z PySem PySem.Spec PyProof.Rows L2
/-! W112: the world of k36: boxes, finest hearings, sizes of right strategies. -/
def fin36 (b : Box) : Nat → Hr
  | 0 => .fin
  | n + 1 => if 1 < (b.getD (b.length - 1 - n) []).length then .ask (b.length - 1 - n) ((b.getD (b.length - 1 - n) []).map fun k => ([k], fin36 b n)) else fin36 b n
structure Hs36 (b : Box) (h : Hr) : Prop where
  g : GoodB b
  o : HrIn b h
  m : h.many ≤ 256
  dp : ∃ dp, h.many * (dp + 4) ≤ 4000 ∧ ∀ x ∈ h.nodes [] b, x.1.length ≤ dp
section
variable {O u : Own36} {s : St36} {p kd m n : Nat} {x : List Nat × Box × Hr} {q : List Nat} {h z : Hr} {b w : Box} {k k' : Nat} {rows : List (List Nat × Hr)} {l L R : List D} {d a e v : D} {ps : List (List Nat)} {sizes : List Nat}
theorem fin36_succ : fin36 b (n + 1) = if 1 < (b.getD (b.length - 1 - n) []).length then .ask (b.length - 1 - n) ((b.getD (b.length - 1 - n) []).map fun k => ([k], fin36 b n)) else fin36 b n := rfl
theorem flat_one {α : Type} : ∀ {l : List α}, (l.map fun k => [k]).flatten = l
  | [] => rfl
  | a :: r => by rw [List.map_cons, List.flatten_cons, flat_one]; rfl
theorem fin36_ok : ∀ {n : Nat} {w : Box}, n ≤ b.length → w.length = b.length → (∀ i, b.length - n ≤ i → w.getD i [] = b.getD i []) → HearOk w (fin36 b n)
  | 0, _, _, _, _ => .fin
  | n + 1, w, hn, hl, hw => by
    rw [fin36_succ]
    split
    · rename_i hc
      have hp := hw (b.length - 1 - n) (by omega)
      refine .ask (by omega) (by rw [List.length_map]; omega) (fun r hr => ?_) ?_ fun r hr => ?_
      · obtain ⟨k, hk, rfl⟩ := List.mem_map.mp hr
        rw [hp]
        exact ⟨by simp, List.singleton_sublist.mpr hk⟩
      · rw [List.map_map, hp]
        have : ((b.getD (b.length - 1 - n) []).map ((fun x : List Nat × Hr => x.1) ∘ fun k => ([k], fin36 b n))).flatten = b.getD (b.length - 1 - n) [] := flat_one
        rw [this]
      · obtain ⟨k, hk, rfl⟩ := List.mem_map.mp hr
        refine fin36_ok (by omega) (by rw [List.length_set]; exact hl) fun i hi => ?_
        have : b.length - 1 - n ≠ i := by omega
        rw [List.getD_eq_getElem?_getD, List.getElem?_set_ne this, ← List.getD_eq_getElem?_getD]
        exact hw i (by omega)
    · exact fin36_ok (by omega) hl fun i hi => hw i (by omega)
theorem fin36_dp : ∀ {n : Nat} {path : List Nat} {w : Box}, ∀ x ∈ (fin36 b n).nodes path w, x.1.length ≤ path.length + n
  | 0, path, w, x, hx => by
    have hx : x ∈ Hr.fin.nodes path w := hx
    rw [Hr.nodes_fin] at hx
    rw [List.mem_singleton.mp hx]
    exact Nat.le_refl _
  | n + 1, path, w, x, hx => by
    rw [fin36_succ] at hx
    split at hx
    · rw [Hr.nodes_ask] at hx
      rcases List.mem_cons.mp hx with rfl | hx
      · exact Nat.le_add_right ..
      · obtain ⟨c, hc, hxc⟩ := List.mem_flatten.mp hx
        obtain ⟨y, hy, rfl⟩ := List.mem_map.mp hc
        obtain ⟨r, j⟩ := y
        have hr := (List.mem_zipIdx hy).2.2
        have hr2 : r.2 = fin36 b n := by
          rw [hr]
          simp
        have hxc : x ∈ r.2.nodes (path ++ [j]) (w.set (b.length - 1 - n) r.1) := hxc
        rw [hr2] at hxc
        have := fin36_dp x hxc
        rw [List.length_append, List.length_singleton] at this
        omega
    · have := fin36_dp x hx
      omega
theorem Hs36.fin (g : GoodB b) : Hs36 b (fin36 b b.length) := by
  obtain ⟨o, hm⟩ := g.hr (fin36_ok (b := b) (n := b.length) (Nat.le_refl _) rfl fun _ _ => rfl)
  refine ⟨g, o, hm, 4, by omega, fun x hx => ?_⟩
  have := fin36_dp x hx
  have := g.b4
  simp only [List.length_nil] at *
  omega
theorem Hs36.of (g : GoodB b) (hk : HearOk b h) (hm : h.many ≤ 100) : Hs36 b h := by
  obtain ⟨o, hm'⟩ := g.hr hk
  refine ⟨g, o, hm', 28, by omega, fun x hx => (node_small o hx).1⟩
theorem law_finest_ok (g : GoodB b) : c__law_finest_k36 [⟨Box.d b, 0⟩] = .ok (⟨(fin36 b b.length).d, 0⟩, [⟨Box.d b, 0⟩]) := by
  obtain ⟨er1, er2⟩ := rg3_down (n := b.length) (by have := g.b4; omega)
  have h4 := g.b4
  refine Ret.eq ?_
  simp (maxSteps := 2000000) -implicitDefEqProofs [-List.getD_eq_getElem?_getD, -own_cons, own_consB, ixT0, ixT1, ixT2, ixT3, ixT4, c__law_finest_k36, m__law_finest_k36, mRange3, lenB, er1, er2]
  refine Ret_for (List.range b.length).reverse (fun (i : Nat) => D.int (i : Int)) [2] (fun (f : Hr) ρ => ρ.set 1 (some ⟨f.d, 0⟩)) (fun done _ f => f = fin36 b done.length) .fin List.map_reverse.symm (by rw [Hr.d_fin]; rfl) rfl (fun done p rest f j e hI => ?_) fun f j hI => ?_
  · have hpi : p = b.length - 1 - done.length ∧ p < b.length := by
      have e1 := congrArg (fun l => l[done.length]?) e
      simp only [List.getElem?_append_right (Nat.le_refl _), Nat.sub_self, List.getElem?_cons_zero] at e1
      have hl := congrArg List.length e
      rw [List.length_reverse, List.length_range, List.length_append, List.length_cons] at hl
      rw [List.getElem?_reverse (by rw [List.length_range]; omega), List.length_range, List.getElem?_range (by omega)] at e1
      have := Option.some.inj e1
      omega
    obtain ⟨hp, hpl⟩ := hpi
    have ex : fIx [⟨Box.d b, 0⟩, ⟨.int (p : Int), 0⟩] = .ok ⟨nD (b.getD p []), 0⟩ := ixT (map_some hpl)
    have hl8 : (b.getD p []).length ≤ 8 := g.l8 _ (by rw [getD_of_lt hpl]; exact List.getElem_mem _)
    have e0 : itemsOf (nD (b.getD p [])) = some ((b.getD p []).map fun (i : Nat) => D.int (i : Int)) := rfl
    have elen : fLen [⟨nD (b.getD p []), 0⟩] = .ok ⟨.int ((b.getD p []).length : Nat), 0⟩ := by
      rw [lenN]
    have hs : fin36 b (done.length + 1) = if 1 < (b.getD p []).length then .ask p ((b.getD p []).map fun k => ([k], f)) else f := by
      rw [fin36_succ, hp, ← hI]
    generalize hks : b.getD p [] = ks at *
    generalize nD ks = kn at *
    generalize hfd : f.d = fd at *
    by_cases hc : 1 < ks.length
    · have hc' : ((1 : Int) < (ks.length : Int)) = True := eq_true (by omega)
      rw [if_pos hc] at hs
      have ed : (Hr.ask p (ks.map fun k => ([k], f))).d = .tup [.str "ask", .int (p : Int), .tup (ks.map fun (k : Nat) => D.tup [.tup [.int (k : Int)], fd])] := by
        rw [Hr.d_ask, List.map_map]
        unfold rowD
        rw [← hfd]
        rfl
      rw [← hs] at ed
      simp (maxSteps := 2000000) -implicitDefEqProofs [-List.getD_eq_getElem?_getD, -own_cons, own_consB, ixT0, ixT1, ixT2, ixT3, ixT4, step1, b__law_finest_k36_2, ex, elen, hc, hc', e0]
      refine ⟨by omega, ?_⟩
      refine Ret_comp ks (fun (i : Nat) => D.int (i : Int)) (fun (k : Nat) => D.tup [.tup [.int (k : Int)], fd]) rfl (fun k hk => ?_) ?_
      · simp (maxSteps := 2000000) -implicitDefEqProofs [-List.getD_eq_getElem?_getD, -own_cons, own_consB, ixT0, ixT1, ixT2, ixT3, ixT4, comp1, e__law_finest_k36_1]
      · simp (maxSteps := 2000000) -implicitDefEqProofs [-List.getD_eq_getElem?_getD, -own_cons, own_consB, ixT0, ixT1, ixT2, ixT3, ixT4]
        exact ed.symm
    · have hc' : ((1 : Int) < (ks.length : Int)) = False := eq_false (by omega)
      rw [if_neg hc] at hs
      simp (maxSteps := 2000000) -implicitDefEqProofs [-List.getD_eq_getElem?_getD, -own_cons, own_consB, ixT0, ixT1, ixT2, ixT3, ixT4, step1, b__law_finest_k36_2, ex, elen, hc, hc']
      rw [hs, hfd]
  · rw [List.length_reverse, List.length_range] at hI
    subst hI
    simp (maxSteps := 2000000) -implicitDefEqProofs [-List.getD_eq_getElem?_getD, -own_cons, own_consB, ixT0, ixT1, ixT2, ixT3, ixT4]
theorem ownN_many (o : HrIn b h) : (ownN h b p).length ≤ h.many := by
  have h1 := nodes_many (path := []) o.ok
  have h2 := Hr.leaves_len (h := h) (path := []) (b := b)
  unfold Hr.leaves at h2
  rw [List.length_map] at h2
  have h3 : ((h.nodes [] b).filter fun x => x.2.2.isFin).length + ((h.nodes [] b).filter fun x => !x.2.2.isFin).length = (h.nodes [] b).length := by
    generalize h.nodes [] b = ns
    induction ns with
    | nil => rfl
    | cons a r ih => 
      cases hf : a.2.2.isFin <;> simp [hf] <;> omega
  have h4 : (ownN h b p).length ≤ ((h.nodes [] b).filter fun x => !x.2.2.isFin).length := by
    have hff : ownN h b p = ((h.nodes [] b).filter fun x => !x.2.2.isFin).filter fun x => decide (x.2.2.per = p) := by
      unfold ownN
      rw [List.filter_filter]
      congr 1
      funext x
      rw [Bool.and_comm]
    rw [hff]
    exact List.length_filter_le ..
  omega
theorem Hs36.own (H : Hs36 b h) : Own1 h (ownL h b p) := by
  refine ⟨fun y hy => ?_, fun y hy => ?_, fun y hy => ?_, ?_⟩
  · obtain ⟨x, hx, rfl⟩ := List.mem_map.mp hy
    obtain ⟨rows, g1, g2, _⟩ := ownN_hear H.o hx
    exact ⟨_, g2⟩
  · obtain ⟨x, hx, rfl⟩ := List.mem_map.mp hy
    obtain ⟨rows, g1, g2, g3, g4, _⟩ := ownN_hear H.o hx
    exact g4
  · obtain ⟨x, hx, rfl⟩ := List.mem_map.mp hy
    obtain ⟨rows, g1, g2, g3, g4, g5, g6, g7⟩ := ownN_hear H.o hx
    show 0 < x.2.2.brs ∧ x.2.2.brs ≤ 8
    rw [g1]
    show 0 < rows.length ∧ rows.length ≤ 8
    omega
  · unfold ownL
    rw [List.length_map]
    have := ownN_many (p := p) H.o
    have := H.m
    omega
theorem Rt36.of (H : Hs36 b h) (hs : List.Sublist (u.map (·.1)) ((ownL h b p).map (·.1))) : Rt36 u := by
  have hl := hs.length_le
  rw [List.length_map, List.length_map] at hl
  have hol : (ownL h b p).length ≤ h.many := by
    unfold ownL
    rw [List.length_map]
    exact ownN_many H.o
  obtain ⟨dp, h1, h2⟩ := H.dp
  have hm := H.m
  have hdp : ∀ y ∈ u, y.1.length ≤ dp ∧ y.1.length ≤ 28 := fun y hy => by
    have := hs.subset (List.mem_map_of_mem (f := (·.1)) hy)
    obtain ⟨y', hy', e⟩ := List.mem_map.mp this
    have e : y'.1 = y.1 := e
    have := (H.own (p := p)).l y' hy'
    obtain ⟨x, hx, rfl⟩ := List.mem_map.mp hy'
    have h3 := h2 x (List.mem_filter.mp hx).1
    rw [← e]
    exact ⟨h3, this⟩
  refine ⟨by omega, fun y hy => (hdp y hy).2, ?_⟩
  have hsum : ∀ {v : Own36}, (∀ y ∈ v, y.1.length ≤ dp) → (v.map fun y => y.1.length + 4).sum ≤ v.length * (dp + 4) := by
    intro v
    induction v with
    | nil => intro _; simp
    | cons a r ih =>
      intro hv
      have h3 := ih fun y hy => hv y (List.mem_cons_of_mem _ hy)
      have h4 := hv a (List.mem_cons_self ..)
      rw [List.map_cons, List.sum_cons, List.length_cons, Nat.succ_mul]
      omega
  have h3 := hsum (v := u) fun y hy => (hdp y hy).1
  have h4 : u.length * (dp + 4) ≤ h.many * (dp + 4) := Nat.mul_le_mul_right _ (by omega)
  omega
theorem Rt36.cn (h : Rt36 u) : cnD (.tup (u.map ownD)) ≤ 5000 ∧ (D.tup (u.map ownD)).pl 3 = true ∧ PL 1000 (u.map ownD) := by
  refine ⟨?_, ?_, by rw [List.length_map]; exact h.l, fun x hx => ?_⟩
  · show cnL (u.map ownD) + 1 ≤ 5000
    have hc := h.c
    have : cnL (u.map ownD) ≤ (u.map fun y => y.1.length + 4).sum := by
      rw [cnL_sum, List.map_map]
      have key : ∀ {v : Own36}, (v.map (cnD ∘ ownD)).sum ≤ (v.map fun y => y.1.length + 4).sum := by
        intro v
        induction v with
        | nil => simp
        | cons a r ih =>
          have e : cnD (ownD a) = cnD (nD a.1) + (1 + 0) + 1 := rfl
          rw [cn_nD] at e
          simp only [List.map_cons, List.sum_cons, Function.comp_apply]
          omega
      exact key
    omega
  · show ((u.map ownD).all fun d => d.pl 2) = true
    rw [List.all_eq_true]
    intro d hd
    obtain ⟨y, _, rfl⟩ := List.mem_map.mp hd
    show ((nD y.1).pl 1 && ((D.int (y.2 : Nat)).pl 1 && true)) = true
    rw [nD_pl]
    rfl
  · obtain ⟨y, hy, rfl⟩ := List.mem_map.mp hx
    exact ownD_C (by have := h.p y hy; omega)
end
end S

namespace S
open Z PySem PySem.Spec PyProof.Rows L2
/-! W113: the world of k36. -/
section
variable {b w : Box} {l : List D} {sizes : List Nat} {m : Nat}
theorem great36_ok : ∀ s ∈ [[4, 4, 4, 4], [8, 8, 4], [8, 4, 2, 4], [2, 8, 8]], SizesOk s := by
  intro s hs
  simp only [List.mem_cons, List.not_mem_nil, or_false] at hs
  rcases hs with rfl | rfl | rfl | rfl
  · exact ⟨by decide, by decide, by decide, by decide⟩
  · exact ⟨by decide, by decide, by decide, by decide⟩
  · exact ⟨by decide, by decide, by decide, by decide⟩
  · exact ⟨by decide, by decide, by decide, by decide⟩
theorem law_hearing36_r (hd : DSl l) (g : GoodB b) (hm : m ≤ 100) (hm1 : 1 ≤ m) {Q : Cell × List Cell → Prop} (kk : ∀ (h : Hr) (l' : List D), DSl l' → Hs36 b h → Q (⟨h.d, 0⟩, [⟨.lst l', 1⟩, ⟨Box.d b, 0⟩, ⟨.int (m : Int), 0⟩])) : Ret (c__law_hearing 30 [⟨.lst l, 1⟩, ⟨Box.d b, 0⟩, ⟨.int (m : Int), 0⟩]) Q := by
  obtain ⟨h, l', e, h1, h2, h3⟩ := law_hearing_e 29 m (by omega) (by omega) hd (by have := g.b4; omega) (fun q hq => ⟨by have := g.l8 q hq; omega, g.nd q hq⟩)
  exact ⟨_, e, kk h l' h1 (Hs36.of g h2 (by omega))⟩
theorem law_world36_r (hd : DSl l) {Q : Cell × List Cell → Prop} (kk : ∀ (b : Box) (h h2 : Hr) (l' : List D), DSl l' → Hs36 b h → Hs36 b h2 → Q (⟨.tup [Box.d b, h.d, h2.d], 0⟩, [⟨.lst l', 1⟩])) : Ret (c__law_world_k36 [⟨.lst l, 1⟩]) Q := by
  have hself : ∀ {s : List Nat}, SizesOk s → GoodB (s.map List.range) := fun hs => wholeGood hs
  have hbd : ∀ s : List Nat, D.tup (s.map fun n => nD (List.range n)) = Box.d (s.map List.range) := fun s => by
    show _ = D.tup ((s.map List.range).map nD)
    rw [List.map_map]
    rfl
  simp (maxSteps := 2000000) -implicitDefEqProofs [-List.getD_eq_getElem?_getD, -own_cons, own_consB, ixT0, ixT1, ixT2, ixT3, ixT4, c__law_world_k36, m__law_world_k36]
  refine rare_r hd (by decide) (by decide) fun g l1 h1 => ?_
  cases g with
  | true =>
    simp (maxSteps := 2000000) -implicitDefEqProofs [-List.getD_eq_getElem?_getD, -own_cons, own_consB, ixT0, ixT1, ixT2, ixT3, ixT4]
    refine pick_map (xs := [[4, 4, 4, 4], [8, 8, 4], [8, 4, 2, 4], [2, 8, 8]]) (f := nD) (by decide) h1 (by decide) (by decide) fun s l2 hs h2 => ?_
    have hso := great36_ok s hs
    have hg := hself hso
    have hs4 := hso.n4
    have e0 : itemsOf (nD s) = some (s.map fun (i : Nat) => D.int (i : Int)) := rfl
    generalize nD s = sd at *
    simp (maxSteps := 2000000) -implicitDefEqProofs [-List.getD_eq_getElem?_getD, -own_cons, own_consB, ixT0, ixT1, ixT2, ixT3, ixT4, e0]
    refine ⟨by omega, ?_⟩
    refine Ret_comp s (fun (i : Nat) => D.int (i : Int)) (fun n => nD (List.range n)) rfl (fun n hn => ?_) ?_
    · have hn8 := (hso.s n hn).2
      have e1 : rgOkB 0 (n : Int) = true := rgOk_nat (by omega)
      simp (maxSteps := 2000000) -implicitDefEqProofs [-List.getD_eq_getElem?_getD, -own_cons, own_consB, ixT0, ixT1, ixT2, ixT3, ixT4, comp1, e__law_world_k36_1, e1, rgD_nL]
      rfl
    · have e5 := law_finest_ok hg
      rw [← hbd] at e5
      have h36 := Hs36.fin hg
      have hh := fun {Q} kk => law_hearing36_r (m := 40) (Q := Q) h2 hg (by decide) (by decide) kk
      rw [← hbd, show ((40 : Nat) : Int) = 40 from rfl] at hh
      generalize fin36 (s.map List.range) (s.map List.range).length = hf at *
      simp (maxSteps := 2000000) -implicitDefEqProofs [-List.getD_eq_getElem?_getD, -own_cons, own_consB, ixT0, ixT1, ixT2, ixT3, ixT4, e5]
      refine hh fun h l3 h3 hs3 => ?_
      rw [hbd]
      simp (maxSteps := 2000000) -implicitDefEqProofs [-List.getD_eq_getElem?_getD, -own_cons, own_consB, ixT0, ixT1, ixT2, ixT3, ixT4]
      exact kk _ hf h l3 h3 h36 hs3
  | false =>
    obtain ⟨s, l2, e2, h2, hm⟩ := law_sizes_m (lim := 64) h1 (by decide) (by decide)
    rw [show ((64 : Nat) : Int) = 64 from rfl] at e2
    have hso := (menu_ok s hm).1
    have hg := hself hso
    have hs4 := hso.n4
    have e0 : itemsOf (nD s) = some (s.map fun (i : Nat) => D.int (i : Int)) := rfl
    generalize nD s = sd at *
    simp (maxSteps := 2000000) -implicitDefEqProofs [-List.getD_eq_getElem?_getD, -own_cons, own_consB, ixT0, ixT1, ixT2, ixT3, ixT4, e2, e0]
    refine ⟨by omega, ?_⟩
    refine Ret_comp s (fun (i : Nat) => D.int (i : Int)) (fun n => nD (List.range n)) rfl (fun n hn => ?_) ?_
    · have hn8 := (hso.s n hn).2
      have e1 : rgOkB 0 (n : Int) = true := rgOk_nat (by omega)
      simp (maxSteps := 2000000) -implicitDefEqProofs [-List.getD_eq_getElem?_getD, -own_cons, own_consB, ixT0, ixT1, ixT2, ixT3, ixT4, comp1, e__law_world_k36_2, e1, rgD_nL]
      rfl
    · simp (maxSteps := 2000000) -implicitDefEqProofs [-List.getD_eq_getElem?_getD, -own_cons, own_consB, ixT0, ixT1, ixT2, ixT3, ixT4, hbd]
      refine Ret_draw (m := 2) h2 (by decide) (by decide) fun n l3 h3 hn => ?_
      simp (maxSteps := 2000000) -implicitDefEqProofs [-List.getD_eq_getElem?_getD, -own_cons, own_consB, ixT0, ixT1, ixT2, ixT3, ixT4]
      refine Ret.mono (P := fun a => ∃ (b : Box) (l' : List D), DSl l' ∧ GoodB b ∧ a = (Fl.next, [some ⟨.lst l', 1⟩, some ⟨Box.d b, 0⟩, none])) ?_ ?_
      · by_cases hc : n = 1
        · have hc' : ((n : Int) = 1) = True := eq_true (by omega)
          obtain ⟨b, l4, e5, h4, hb⟩ := law_drawn_box_e h3 hg.ne (by have := hg.b4; omega) fun z hz => by have := hg.l8 z hz; omega
          simp (maxSteps := 2000000) -implicitDefEqProofs [-List.getD_eq_getElem?_getD, -own_cons, own_consB, ixT0, ixT1, ixT2, ixT3, ixT4, hc, hc', e5]
          exact ⟨b, l4, h4, BoxIn.good hso hb, rfl, rfl⟩
        · have hc' : ((n : Int) = 1) = False := eq_false (by omega)
          simp (maxSteps := 2000000) -implicitDefEqProofs [-List.getD_eq_getElem?_getD, -own_cons, own_consB, ixT0, ixT1, ixT2, ixT3, ixT4, hc, hc']
          exact ⟨_, l3, h3, hg, rfl, rfl⟩
      · rintro a ⟨b, l4, h4, gb, rfl⟩
        simp (maxSteps := 2000000) -implicitDefEqProofs [-List.getD_eq_getElem?_getD, -own_cons, own_consB, ixT0, ixT1, ixT2, ixT3, ixT4]
        refine pick_map (xs := [12, 40, 12, 100]) (f := fun (i : Nat) => D.int (i : Int)) (by decide) h4 (by decide) (by decide) fun m l5 hm h5 => ?_
        have hmm : m ≤ 100 ∧ 1 ≤ m := by
          simp only [List.mem_cons, List.not_mem_nil, or_false] at hm
          omega
        simp (maxSteps := 2000000) -implicitDefEqProofs [-List.getD_eq_getElem?_getD, -own_cons, own_consB, ixT0, ixT1, ixT2, ixT3, ixT4]
        refine law_hearing36_r h5 gb hmm.1 hmm.2 fun h l6 h6 hs6 => ?_
        simp (maxSteps := 2000000) -implicitDefEqProofs [-List.getD_eq_getElem?_getD, -own_cons, own_consB, ixT0, ixT1, ixT2, ixT3, ixT4]
        refine law_hearing36_r (m := 12) h6 gb (by decide) (by decide) fun h' l7 h7 hs7 => ?_
        simp (maxSteps := 2000000) -implicitDefEqProofs [-List.getD_eq_getElem?_getD, -own_cons, own_consB, ixT0, ixT1, ixT2, ixT3, ixT4]
        exact kk _ h h' l7 h7 hs6 hs7
end
end S

namespace S
open Z PySem PySem.Spec PyProof.Rows L2
section
variable {l xs : List D} {b : Box} {h h2 : Hr} {p : Nat}
theorem asked36 {xs : List D} (o : HrIn b h) (hx : ∀ x ∈ xs, StC x) : c__law_asked_k36 [⟨Box.d b, 0⟩, ⟨h.d, 0⟩, ⟨.int (p : Int), 0⟩, ⟨.lst ((ownL h b p).map ownD), 1⟩, ⟨.lst xs, 1⟩] = .ok (⟨.bl true, 0⟩, [⟨Box.d b, 0⟩, ⟨h.d, 0⟩, ⟨.int (p : Int), 0⟩, ⟨.lst ((ownL h b p).map ownD), 1⟩, ⟨.lst xs, 1⟩]) := by
  obtain ⟨ss, rfl, hs⟩ := StC.exL hx
  exact law_asked36_ok o hs
theorem ixL_m2 {xs : List D} {a c : D} : fIx [⟨.lst (xs ++ [a, c]), 1⟩, ⟨.int (-2), 0⟩] = .ok ⟨a, 0⟩ := by
  have e1 : ixN (xs ++ [a, c]).length (-2) = some xs.length := by
    unfold ixN
    simp
    omega
  have e : atI (xs ++ [a, c]) (-2) = some a := by
    unfold atI
    rw [e1]
    show (xs ++ [a, c])[xs.length]? = some a
    simp
  exact p_ixL (by decide) e
theorem pure_k36 (ns : List Int) (hl : ns.length ≤ 63) : ∃ fs, c_law_k36 [⟨.scr (ns.map D.int), 0⟩] = .ok (Cell.fz (.bl true), fs) := by
  suffices hh : Ret (c_law_k36 [⟨.scr (ns.map D.int), 0⟩]) fun a => a.1 = Cell.fz (.bl true) by
    obtain ⟨⟨c, fs⟩, e, rfl⟩ := hh
    exact ⟨fs, e⟩
  obtain ⟨l0, e0, h0⟩ := begin_s hl
  generalize D.scr (ns.map D.int) = sd at *
  simp (maxSteps := 2000000) -implicitDefEqProofs [-List.getD_eq_getElem?_getD, -own_cons, own_consB, ixT0, ixT1, ixT2, ixT3, ixT4, c_law_k36, m_law_k36, e0]
  refine law_world36_r h0 fun b h h2 l1 h1 H H2 => ?_
  have b4 := H.g.b4
  have b1 := H.g.b1
  have e1 := law_nodes_e H.o.ok (by omega) H.o.m
  have hnl := H.o.nlen
  have hnpos := nodes_pos (h := h) (path := []) (b := b)
  have hn28 : ∀ x ∈ h.nodes [] b, x.1.length ≤ 28 := fun x hx => (node_small H.o hx).1
  have eown := fun p => law_own36_ok (p := p) H.o H.o.m
  have eown2 := fun p => law_own36_ok (p := p) H2.o H2.o.m
  have eask := fun p {xs} hx => asked36 (p := p) (xs := xs) H.o hx
  have eask2 := fun p {xs} hx => asked36 (p := p) (xs := xs) H2.o hx
  have etr := fun p hp => law_are_truthful_ok (p := p) H.o hp
  have etr2 := fun p hp => law_are_truthful_ok (p := p) H2.o hp
  have eot := fun p kd hp => law_own_truthful_ok (p := p) (kd := kd) H.o hp
  have hown := fun p => H.own (p := p)
  have hown2 := fun p => H2.own (p := p)
  have hrt := fun p {u} hs => Rt36.of (p := p) (u := u) H hs
  have hrt2 := fun p {u} hs => Rt36.of (p := p) (u := u) H2 hs
  have hnear := fun p {l R : List D} {ps} (hd : DSl l) hps hpl hp28 hR hRp hcn {Q} kk => law_near_k36_r (l := l) (R := R) (ps := ps) (Q := Q) hd (hown p) hps hpl hp28 hR hRp hcn kk
  have hpk := fun p (hp : p < b.length) {l : List D} (hd : DSl l) {Q} kk => pick_nT (l := l) (ks := b.getD p []) (Q := Q) hd (H.g.ne _ (by rw [getD_of_lt hp]; exact List.getElem_mem _)) (by have := H.g.l8 (b.getD p []) (by rw [getD_of_lt hp]; exact List.getElem_mem _); omega) kk
  have ebx : ∀ p, p < b.length → fIx [⟨Box.d b, 0⟩, ⟨.int (p : Int), 0⟩] = .ok ⟨nD (b.getD p []), 0⟩ := fun p hp => ixT (map_some hp)
  simp (maxSteps := 2000000) -implicitDefEqProofs [-List.getD_eq_getElem?_getD, -own_cons, own_consB, ixT0, ixT1, ixT2, ixT3, ixT4, e1]
  refine ⟨by omega, ?_⟩
  refine Ret_comp (h.nodes [] b) nodeD (fun x => nD x.1) rfl (fun x hx => ?_) ?_
  · simp (maxSteps := 2000000) -implicitDefEqProofs [-List.getD_eq_getElem?_getD, -own_cons, own_consB, ixT0, ixT1, ixT2, ixT3, ixT4, comp1, e_law_k36_1, nodeD]
  · have hpsm : (h.nodes [] b).map (fun x => nD x.1) = ((h.nodes [] b).map (·.1)).map nD := by rw [List.map_map]; rfl
    rw [hpsm]
    have hp1 : (h.nodes [] b).map (·.1) ≠ [] := List.length_pos_iff.mp (by rw [List.length_map]; omega)
    have hp2 : ((h.nodes [] b).map (·.1)).length ≤ 5000 := by rw [List.length_map]; omega
    have hp3 : ∀ q ∈ (h.nodes [] b).map (·.1), q.length ≤ 28 := fun q hq => by
      obtain ⟨x, hx, rfl⟩ := List.mem_map.mp hq
      exact hn28 x hx
    generalize (h.nodes [] b).map (·.1) = ps at *
    have e2 : rgOkB 0 (b.length : Int) = true := rgOk_nat (by omega)
    clear hpsm e1 hnl hnpos hn28
    simp (maxSteps := 2000000) -implicitDefEqProofs [-List.getD_eq_getElem?_getD, -own_cons, own_consB, ixT0, ixT1, ixT2, ixT3, ixT4, lenB, e2, rgD_nL]
    refine Ret.mono (P := fun a => ∃ (pl : List Nat) (l' : List D), DSl l' ∧ (∀ p ∈ pl, p < b.length) ∧ a = (Fl.next, [some ⟨sd, 0⟩, some ⟨.lst l', 1⟩, some ⟨Box.d b, 0⟩, some ⟨h.d, 0⟩, some ⟨h2.d, 0⟩, some ⟨.lst (ps.map nD), 1⟩, none, none, none, some ⟨.lst (nL pl), 1⟩, none, none, none, none, none, none, none])) ?_ ?_
    · by_cases hc : 25 < ps.length
      · have hc' : ((25 : Int) < (ps.length : Int)) = True := eq_true (by omega)
        simp (maxSteps := 2000000) -implicitDefEqProofs [-List.getD_eq_getElem?_getD, -own_cons, own_consB, ixT0, ixT1, ixT2, ixT3, ixT4, hc, hc']
        refine pick_nL (ks := List.range b.length) h1 (List.length_pos_iff.mp (by rw [List.length_range]; exact b1)) (by rw [List.length_range]; omega) (by decide) fun p l2 hp h2' => ?_
        simp (maxSteps := 2000000) -implicitDefEqProofs [-List.getD_eq_getElem?_getD, -own_cons, own_consB, ixT0, ixT1, ixT2, ixT3, ixT4]
        exact ⟨[p], l2, h2', fun q hq => by rw [List.mem_singleton.mp hq]; exact List.mem_range.mp hp, rfl, rfl⟩
      · have hc' : ((25 : Int) < (ps.length : Int)) = False := eq_false (by omega)
        simp (maxSteps := 2000000) -implicitDefEqProofs [-List.getD_eq_getElem?_getD, -own_cons, own_consB, ixT0, ixT1, ixT2, ixT3, ixT4, hc, hc']
        exact ⟨List.range b.length, l1, h1, fun q hq => List.mem_range.mp hq, rfl, rfl⟩
    · rintro a ⟨pl, l2, h2', hpl, rfl⟩
      have hpm : nL pl = pl.map fun (i : Nat) => D.int (i : Int) := rfl
      simp (maxSteps := 2000000) -implicitDefEqProofs [-List.getD_eq_getElem?_getD, -own_cons, own_consB, ixT0, ixT1, ixT2, ixT3, ixT4, hpm]
      refine Ret_for pl (fun (i : Nat) => D.int (i : Int)) [10, 11, 12, 13, 15, 16] (fun (l : List D) ρ => ρ.set 1 (some ⟨.lst l, 1⟩)) (fun _ _ l => DSl l) l2 rfl rfl h2' (fun done p rest l3 j e hI => ?_) fun l3 j hI => ?_
      · have hp := hpl p (by rw [e]; simp)
        have hO := hown p
        have hO2 := hown2 p
        have a1 := eown p
        have a2 := eown2 p
        have a3 := etr p hp
        have a4 := etr2 p hp
        have a5 := fun kd => eot p kd hp
        simp (maxSteps := 2000000) -implicitDefEqProofs [-List.getD_eq_getElem?_getD, -own_cons, own_consB, ixT0, ixT1, ixT2, ixT3, ixT4, step1, b_law_k36_3, a1, a2]
        have hOn := hO.n
        have hsubO : List.Sublist (((ownL h b p).map fun x => (x.1, x.2 - 1)).map (·.1)) ((ownL h b p).map (·.1)) := by
          rw [List.map_map]
          exact List.Sublist.refl _
        refine ⟨by omega, ?_⟩
        refine Ret_comp (ownL h b p) ownD (fun x => ownD (x.1, x.2 - 1)) rfl (fun x hx => ?_) ?_
        · have hm := hO.m x hx
          have hsb : ((x.2 - 1 : Nat) : Int) = (x.2 : Int) - 1 := by omega
          have hlt : (1 : Nat) ≤ x.2 := hm.1
          simp (maxSteps := 2000000) -implicitDefEqProofs [-List.getD_eq_getElem?_getD, -own_cons, own_consB, ixT0, ixT1, ixT2, ixT3, ixT4, comp1, e_law_k36_2, ownD, hsb]
        · have hr1 : (ownL h b p).map (fun x => ownD (x.1, x.2 - 1)) = ((ownL h b p).map fun x => (x.1, x.2 - 1)).map ownD := by
            rw [List.map_map]
            rfl
          rw [hr1]
          have ru1 := hrt p hsubO
          generalize ((ownL h b p).map fun x => (x.1, x.2 - 1)) = u1 at *
          simp (maxSteps := 2000000) -implicitDefEqProofs [-List.getD_eq_getElem?_getD, -own_cons, own_consB, ixT0, ixT1, ixT2, ixT3, ixT4]
          refine law_drawn_pairs_r hI (fun y hy => by have := hO.m y hy; omega) hOn fun u2 l4 h4 hs2 => ?_
          have ru2 := hrt p hs2
          simp (maxSteps := 2000000) -implicitDefEqProofs [-List.getD_eq_getElem?_getD, -own_cons, own_consB, ixT0, ixT1, ixT2, ixT3, ixT4, ebx p hp]
          refine hpk p hp h4 fun kd l5 hkd h5 => ?_
          have hs3 : List.Sublist ((trL h b p kd).map (·.1)) ((ownL h b p).map (·.1)) := by
            unfold trL ownL trN
            rw [List.map_map, List.map_map]
            exact List.filter_sublist.map _
          have ru3 := hrt p hs3
          simp (maxSteps := 2000000) -implicitDefEqProofs [-List.getD_eq_getElem?_getD, -own_cons, own_consB, ixT0, ixT1, ixT2, ixT3, ixT4, a5]
          generalize trL h b p kd = u3 at *
          have hus : ∀ u ∈ [u1, u2, u3], Rt36 u := fun u hu => by
            simp only [List.mem_cons, List.not_mem_nil, or_false] at hu
            rcases hu with rfl | rfl | rfl
            · exact ru1
            · exact ru2
            · exact ru3
          have hrl : [D.tup (u1.map ownD), D.tup (u2.map ownD), D.tup (u3.map ownD)] = [u1, u2, u3].map fun u => D.tup (u.map ownD) := rfl
          have hrst : ∀ x ∈ [u1, u2, u3].map (fun u => D.tup (u.map ownD)), StC x := fun x hx => by
            obtain ⟨u, hu, rfl⟩ := List.mem_map.mp hx
            exact (hus u hu).st
          have hrl3 : [u1, u2, u3].length = 3 := rfl
          rw [hrl]
          generalize [u1, u2, u3] = us at *
          refine pick_map (xs := us) (f := fun u => D.tup (u.map ownD)) (by decide) h5 (by omega) (by omega) fun ur l6 hur h6 => ?_
          obtain ⟨c1, c2, c3⟩ := (hus ur hur).cn
          simp (maxSteps := 2000000) -implicitDefEqProofs [-List.getD_eq_getElem?_getD, -own_cons, own_consB, ixT0, ixT1, ixT2, ixT3, ixT4]
          refine hnear p h6 hp1 hp2 hp3 c3 c2 c1 fun xs l7 h7 hxs hxl => ?_
          have hrD : (us.map fun u => D.tup (u.map ownD)).length = 3 := by rw [List.length_map]; exact hrl3
          generalize us.map (fun u => D.tup (u.map ownD)) = rD at *
          simp (maxSteps := 2000000) -implicitDefEqProofs [-List.getD_eq_getElem?_getD, -own_cons, own_consB, ixT0, ixT1, ixT2, ixT3, ixT4]
          refine ⟨by omega, ?_⟩
          refine law_drawn_pairs_r h7 (fun y hy => by have := hO2.m y hy; omega) hO2.n fun u4 l8 h8 hs4 => ?_
          have ru4 := (hrt2 p hs4).st
          generalize D.tup (u4.map ownD) = d4 at *
          simp (maxSteps := 2000000) -implicitDefEqProofs [-List.getD_eq_getElem?_getD, -own_cons, own_consB, ixT0, ixT1, ixT2, ixT3, ixT4]
          refine ⟨by omega, ?_⟩
          refine Ret_drawN h8 (by omega) (by omega) fun oth l9 h9 hoth => ?_
          have a6 := eown oth
          have hO3 := hown oth
          simp (maxSteps := 2000000) -implicitDefEqProofs [-List.getD_eq_getElem?_getD, -own_cons, own_consB, ixT0, ixT1, ixT2, ixT3, ixT4, a6]
          refine law_drawn_pairs_r h9 (fun y hy => by have := hO3.m y hy; omega) hO3.n fun u5 l10 h10 hs5 => ?_
          have ru5 := (hrt oth hs5).st
          generalize D.tup (u5.map ownD) = d5 at *
          have hth : ∀ x ∈ xs ++ (rD ++ [d4, d5]), StC x := fun x hx => by
            rcases List.mem_append.mp hx with hx | hx
            · exact hxs x hx
            · rcases List.mem_append.mp hx with hx | hx
              · exact hrst x hx
              · simp only [List.mem_cons, List.not_mem_nil, or_false] at hx
                rcases hx with rfl | rfl
                · exact ru4
                · exact ru5
          have hth2 : ∀ x ∈ rD ++ [d4], StC x := fun x hx => by
            rcases List.mem_append.mp hx with hx | hx
            · exact hrst x hx
            · rw [List.mem_singleton.mp hx]
              exact ru4
          have b1' := eask p hth
          have b2' := eask2 p hth2
          have b3' := eask p hrst
          have b5' := ixL_m2 (xs := xs ++ rD) (a := d4) (c := d5)
          rw [List.append_assoc] at b5'
          have hthl : (xs ++ (rD ++ [d4, d5])).length ≤ 70 := by simp only [List.length_append, List.length_cons, List.length_nil]; omega
          simp (maxSteps := 2000000) -implicitDefEqProofs [-List.getD_eq_getElem?_getD, -own_cons, own_consB, ixT0, ixT1, ixT2, ixT3, ixT4, b1', a3, b5', b2', a4, b3']
          exact ⟨by omega, by omega, h10⟩
      · simp (maxSteps := 2000000) -implicitDefEqProofs [-List.getD_eq_getElem?_getD, -own_cons, own_consB, ixT0, ixT1, ixT2, ixT3, ixT4]
end
end S

theorem PySem.Challenge.cw_plainhearing_k36_strategies_judged_holds : PySem.Challenge.rw_plainhearing_k36_strategies_judged.Holds := by
  exact P_k36.end_ S.pure_k36


