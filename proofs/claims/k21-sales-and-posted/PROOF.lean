import PyProof.Rows.All
import Wide.All
import OpenK.AllK
import Wide.FinOn
import HandS.ForMost
import HandS.TupAny
import HandS.Deep
import HandS.Conv
import HandS.IsInst
import HandS.Flow
import HandS.Defaults
import HandS.Strs
import HandS.SortRule
import HandS.SortInts
import HandS.TupSets
import KE.KStateDown
import Lean
import HandS.Head0
import HandS.Head1
import HandS.Head2
import HandS.HeadEnd
import HandS.HeadHook1
import HandS.HeadHook2
import PySem.Challenge.RW_plainhearing_k21_sales_and_posted
set_option Elab.async false
set_option linter.all false
set_option maxRecDepth 100000
set_option maxHeartbeats 0
/-! Z0: tuples whose object is known, tuple.index, the item of a list as it is read in an augmented store. -/
namespace Z
open PySem PySem.Spec PyProof.Rows L2
section
variable {X : Cx}
/-- a tuple laid: its object is known -/
theorem Inv.tupF {pins : List (Addr × Obj)} {σ : L2.St} {H : Hp} {s : Shared} {a : Addr} {xs : List V} {its : List Value} {h' : Heap} {t' : Nat} (I : Inv X pins σ H s) (k : ∀ b u, s.heap.get? b = some u → h'.get? b = some u) (hp : s.heap.objs.size ≤ a)
    (e : h'.get? a = some { cls := .type "tuple", data := .seq its.toArray }) (r : Vals xs its) (hz : xs.length ≤ sizeLine) : Inv X pins σ (upd H a (.frz { cls := .type "tuple", data := .seq its.toArray } (.tup xs))) { s with heap := h', toks := t' } :=
  I.laid k hp ⟨e, hz, its, r, ⟨_, e, rfl, _, rfl⟩⟩
def tTupF (t : TA) : TE := fun σ H Q => t σ H fun xs H1 => xs.length ≤ sizeLine ∧ ∀ p o, H1 p = none → o.dict = none → Q (.ref p) (upd H1 p (.frz o (.tup xs)))
theorem pe_tupF {es : List Expr} {t : TA} {pos : Pos} {x1 : Nat} (h : PA X es t) : PE X (.Tuple es x1 pos) (tTupF t) := by
  refine ⟨fun pins s σ H Q I hq => ?_⟩
  refine wpAny_Tuple_spliced (thn (h.run pos pins s σ H _ I hq) fun us s1 ⟨xs, H1, I1, r, z, q⟩ => ⟨by rw [← r.length]; exact z, ?_⟩)
  have hf : H1 s1.heap.objs.size = none := I1.hok.fresh (Nat.le_refl _)
  exact ⟨.ref s1.heap.objs.size, _, Inv.tupF (t' := s1.toks) I1 (fun b u e => Heap.get?_push_of_some _ e) (Nat.le_refl _) (Heap.get?_push_size _ rfl) r z, rfl, q _ _ hf rfl⟩
theorem call_tuple_ofF : CallR X (.type "tuple") (fun xs H Q => ∃ p ys, xs = [.ref p] ∧ ((SqL X.K H p ys ∧ ∀ l o, H l = none → o.dict = none → Q (.ref l) (upd H l (.frz o (.tup ys)))) ∨ (SqT X.K H p ys ∧ Q (.ref p) H))) := by
  intro pins s σ H xs us Q I r h
  obtain ⟨p, ys, rfl, h⟩ := h
  obtain ⟨u, rfl, rx⟩ := vals1 r
  cases rx
  rcases h with ⟨hq, q⟩ | ⟨hq, q⟩
  · obtain ⟨its, r', pl, hz⟩ := I.list hq
    have hlen := r'.length
    refine call_tuple_list pl.isList (fun h' kp => ?_) (by simp only [List.size_toArray] <;> omega)
    have I1 : Inv X pins σ H { s with heap := h' } := I.kept (t' := s.toks) kp
    have I2 := Inv.tupF (h' := h'.push { cls := .type "tuple", data := .seq its.toArray }) (t' := s.toks) I1 (fun b o e => Heap.get?_push_of_some _ e) (Nat.le_refl _) (Heap.get?_push_size _ rfl) r' hz
    exact ⟨.ref h'.objs.size, _, I2, rfl, q _ _ (I1.hok.fresh (Nat.le_refl _)) rfl⟩
  · obtain ⟨its, r', pl, hz⟩ := I.tuple hq
    exact call_tuple_same pl ⟨.ref p, H, I, rfl, q⟩
def rCatF (K : PySem.W.Frag) : R2 := fun x y H Q => ∃ a b xs ys, x = .ref a ∧ y = .ref b ∧ SqT K H a xs ∧ SqT K H b ys ∧ xs.length + ys.length ≤ sizeLine ∧
  (xs = [] → Q (.ref b) H) ∧ (xs ≠ [] → ys = [] → Q (.ref a) H) ∧ (xs ≠ [] → ys ≠ [] → ∀ p o, H p = none → o.dict = none → Q (.ref p) (upd H p (.frz o (.tup (xs ++ ys)))))
theorem op_catF : OpR X (binaryOp .Add) (rCatF X.K) := by
  intro pins s σ H x y v u Q I rx ry h
  obtain ⟨a, b, xs, ys, rfl, rfl, ha, hb, hz, q0, q1, q2⟩ := h
  cases rx
  cases ry
  obtain ⟨its, r1, p1, _⟩ := I.tuple ha
  obtain ⟨its2, r2, p2, _⟩ := I.tuple hb
  by_cases hx : xs = []
  · subst hx
    cases r1
    exact cat_tup0 p1 p2 ⟨.ref b, H, I, rfl, q0 rfl⟩
  · refine HT.cat_tup p1 p2 (fun z => hx (r1.nil_iff.mp z)) (fun z => ⟨.ref a, H, I, rfl, q1 hx (r2.nil_iff.mp z)⟩) (fun z => ?_) (by rw [← r1.length, ← r2.length]; exact hz)
    exact ⟨.ref s.heap.objs.size, _, Inv.tupF (t' := s.toks) I (fun b ob q => Heap.get?_push_of_some _ q) (Nat.le_refl _) (Heap.get?_push_size _ rfl) (r1.append r2) (by rw [List.length_append]; exact hz), rfl, q2 hx (fun w => z (r2.nil_iff.mpr w)) _ _ (I.hok.fresh (Nat.le_refl _)) rfl⟩
def rSlF (K : PySem.W.Frag) : V → Option Int → Option Int → Hp → VK → Prop := fun x lo hi H Q => ∃ a xs, x = .ref a ∧ SqT K H a xs ∧
  (HT.sIx xs.length 0 lo = 0 ∧ HT.sIx xs.length xs.length hi = xs.length → Q (.ref a) H) ∧ (¬ (HT.sIx xs.length 0 lo = 0 ∧ HT.sIx xs.length xs.length hi = xs.length) → ∀ p o, H p = none → o.dict = none → Q (.ref p) (upd H p (.frz o (.tup (cutV xs lo hi)))))
theorem sl_tupF : SlR X (rSlF X.K) := by
  intro pins s σ H x v vl vu lo hi sl Q I rx hs pl pu h
  obtain ⟨a, xs, rfl, hx, q1, q2⟩ := h
  cases rx
  obtain ⟨its, r, ht, hz⟩ := I.tuple hx
  have hlen : its.toArray.size = xs.length := by rw [List.size_toArray]; exact r.length.symm
  by_cases hw : HT.sIx xs.length 0 lo = 0 ∧ HT.sIx xs.length xs.length hi = xs.length
  · refine ⟨"tuple", _, PyProof.Rows.slot_tuple_getitem.lookup, ht.typeIs, ?_⟩
    exact getItem_tuple_whole ht hs pl pu (by rw [hlen]; exact hw) ⟨.ref a, H, I, rfl, q1 hw⟩
  · refine ⟨"tuple", _, PyProof.Rows.slot_tuple_getitem.lookup, ht.typeIs, ?_⟩
    refine HT.getItem_tuple_cut ht hs pl pu (by rw [hlen]; exact hw) ?_ (by rw [hlen]; exact hz)
    rw [hlen]
    exact ⟨.ref s.heap.objs.size, _, Inv.tupF (t' := s.toks) I (fun b ob q => Heap.get?_push_of_some _ q) (Nat.le_refl _) (Heap.get?_push_size _ rfl) ((r.drop (HT.sIx xs.length 0 lo)).take (HT.sIx xs.length xs.length hi - HT.sIx xs.length 0 lo)) (Nat.le_trans (cutV_length xs lo hi) hz), rfl, q2 hw _ _ (I.hok.fresh (Nat.le_refl _)) rfl⟩
def tTupRgF (te : L2.St → Hp → (Int → Int → Hp → Prop) → Prop) : TE := fun σ H Q => te σ H fun a b H1 => RgOk a b ∧ ∀ q o, H1 q = none → o.dict = none → Q (.ref q) (upd H1 q (.frz o (.tup (rgV a b))))
theorem pe_tupRgF {e : Expr} {te : L2.St → Hp → (Int → Int → Hp → Prop) → Prop} {p pos : Pos} (hc : X.calm = true) (hg : Gl X "tuple") (hm : X.mg "tuple" = none) (he : PRg X e te) (na : starEach [e] X.env = (false, eval e X.env) :: starEach [] X.env := by rfl) : PE X (.Call (.Name "tuple" p) [e] [] pos) (tTupRgF te) := by
  refine ⟨fun pins s σ H Q I h => ?_⟩
  refine Call_ (ld_blt I hg hm boot_tuple (PyProof.Rows.callWith_type1 (args_cons (thn (he pins s σ H _ I h) fun x s1 ⟨r, a, b, t, u, v, H1, ex, hr, I1, ok, q⟩ => args_nil ?_) na) na))
  subst ex
  obtain ⟨b1, b2, b3, b4, b5⟩ := ok
  refine call_tuple_range (n := (b - a).toNat) (I1.ok.hd hc) hr (small_one b1 b2 b3 b4) (rangeSize_nat a b) b5 fun h' tk acc hk hi => ?_
  have I2 : Inv X pins σ H1 { s1 with heap := h', toks := tk } := I1.kept hk
  have I3 := Inv.tupF (a := h'.objs.size) (its := acc.toList) (h' := h'.push { cls := .type "tuple", data := .seq acc }) (t' := tk) I2 (fun c o e => Heap.get?_push_of_some _ e) (Nat.le_refl _) (by rw [Array.toArray_toList]; exact Heap.get?_push_size _ rfl) (vals_rg hi) (by rw [rgV_length, sizeLine_eq]; omega)
  exact ⟨.ref h'.objs.size, _, I3, rfl, q _ _ (I2.hok.fresh (Nat.le_refl _)) rfl⟩

/-! ### tuple.index of data -/
/-- a tuple as a method's receiver -/
def TupRc (K : PySem.W.Frag) (H : Hp) (p : Addr) : Prop := (∃ o xs, H p = some (.frz o (.tup xs)) ∧ o.dict = none) ∨ ∃ o, K.lookup p = some o ∧ o.cls = .type "tuple" ∧ o.dict = none
theorem tupRc_is {pins : List (Addr × Obj)} {σ : L2.St} {H : Hp} {s : Shared} {p : Addr} (I : Inv X pins σ H s) (h : TupRc X.K H p) : s.TypeIs (.ref p) "tuple" ∧ ∀ a, Value.ref p = .ref a → ∃ ob, s.heap.get? a = some ob ∧ ob.dict = none := by
  rcases h with ⟨o, xs, hp, hd⟩ | ⟨o, hk, hc, hd⟩
  · obtain ⟨e, _, its, _, o', e', c', _⟩ := I.hok p _ hp
    exact ⟨⟨o', e', c'⟩, fun a q => by cases q; exact ⟨o, e, hd⟩⟩
  · exact ⟨⟨o, I.kIn p o hk, hc⟩, fun a q => by cases q; exact ⟨o, I.kIn _ o hk, hd⟩⟩
def tTM (K : PySem.W.Frag) (r : V → List V → Hp → VK → Prop) (to : TE) (t : TA) : TE := fun σ H Q => to σ H fun x H1 => (∃ p, x = .ref p ∧ TupRc K H1 p) ∧ t σ H1 fun xs H2 => r x xs H2 Q
theorem pe_tm {o e : Expr} {es : List Expr} {to : TE} {t : TA} {name : Str} {apos cpos : Pos} {id : String} {r : V → List V → Hp → VK → Prop} (slot : Slot "tuple" name id) (hty : typeOf (.builtin id) = pure (.type "method_descriptor")) (hm : MtR X id r) (ho : PE X o to) (ha : PA X (e :: es) t)
    (hbase : attributeBase o name X.env (eval o X.env) = eval o X.env := by rfl)
    (hfew : ((backTo cpos (starEach (e :: es) X.env)).all (fun x => !x.1) && (backToKw cpos (keywordEach [] X.env)).all (fun x => x.1.isSome)
      && decide ((e :: es).length + ([] : List Keyword).length + (if ([] : List Keyword).isEmpty then 0 else 1) < 30)) = true := by rfl)
    (hline : (apos.endLine == cpos.line) = true := by rfl) (hs : starEach (e :: es) X.env = (false, eval e X.env) :: starEach es X.env := by rfl) (hplain : (backTo cpos (starEach es X.env)).any (·.1) = false := by rfl) :
    PE X (.Call (.Attribute o name apos) (e :: es) [] cpos) (tTM X.K r to t) := by
  refine ⟨fun pins s σ H Q I h => ?_⟩
  refine wpAny_Call_method_late hbase hfew hline rfl (thn (ho.run pins s σ H _ I h) fun v s1 ⟨x, H1, I1, r1, ⟨p, ex, ty⟩, q1⟩ => ?_)
  subst ex
  cases r1
  obtain ⟨h1, h2⟩ := tupRc_is I1 ty
  refine ⟨"tuple", id, PySem.F.plainAttrs_tuple, slot, hty, h1, h2, ?_⟩
  have hA := ha.run cpos pins s1 σ H1 _ I1 q1
  rw [hs] at hA ⊢
  refine Calls.callWith_builtin (by show (false || (backTo cpos (starEach es X.env)).any (·.1)) = false; rw [hplain] <;> rfl) (Calls.evalArgs_plain ?_)
  exact thn hA fun us s2 ⟨vs, H2, I2, r2, q2⟩ => hm pins s2 σ H2 (.ref p) vs _ us Q I2 rfl r2 q2
def rTIndexD (K : PySem.W.Frag) : V → List V → Hp → VK → Prop := fun x xs H Q => ∃ (a : Addr) (y : V) (d : PyData) (ds : List PyData) (j : Nat) (z : PyData), x = V.ref a ∧ xs = [y] ∧ Dp K H (V.ref a) (.tuple ds) ∧ Dp K H y d ∧
  SeqAt.shaped (.tuple ds) = true ∧ SeqAt.shaped d = true ∧ ds[j]? = some z ∧ PyData.eqv z d = true ∧ (∀ (m : Nat) (z' : PyData), m < j → ds[m]? = some z' → PyData.eqv z' d = false) ∧ Q (.int (j : Nat)) H
theorem mt_tindexD (hu : X.A.units + 65 < cLine) : MtR X "tuple.index" (rTIndexD X.K) := by
  intro pins s σ H x xs v us Q I rx rxs h
  obtain ⟨a, y, d, ds, j, z, rfl, rfl, hl, hy, sl, sd, hz, hzj, hno, q⟩ := h
  cases rx
  cases rxs with
  | cons ry rt =>
    rename_i uy ut
    cases rt
    obtain ⟨bs, r1⟩ := Dp.reads I d y uy hy ry
    have hxs : PyData.canLayAll0 ds = true := SeqAt.canLay_of_shaped sl
    have hroom : X.A.units + 1 + min (PyData.depthAll ds) d.depth < cLine := room_in_shaped sd hu
    cases hl with
    | tup hs ha =>
      obtain ⟨its, rv, ⟨⟨cls, dd, data, sls⟩, ho, hc, n, hdt⟩, hlen⟩ := I.tuple hs
      simp only at hc hdt
      subst hc hdt
      obtain ⟨as, h4⟩ := Dp.readsAll I ds _ its ha rv
      have hn : its.length = ds.length := SeqAt.ReadsAll.length ds its as h4
      have hmap : its.map (SeqAt.readOf s.heap) = ds := SeqAt.readsAll_map ds its as hxs h4
      have hvl := rv.length
      have hsl := sizeLine_eq
      obtain ⟨hjd, _⟩ := List.getElem?_eq_some_iff.mp hz
      have hjl : j < its.length := by omega
      have hj : j < its.toArray.size := by simpa using hjl
      have at_ : ∀ (m : Nat) (hm : m < its.toArray.size) (z' : PyData), ds[m]? = some z' → SeqAt.readOf s.heap its.toArray[m] = z' := by
        intro m hm z' hz'
        have hml : m < its.length := by simpa using hm
        rw [← hmap, List.getElem?_map, List.getElem?_eq_getElem hml] at hz'
        have e1 : SeqAt.readOf s.heap its[m] = z' := Option.some.inj (show some (SeqAt.readOf s.heap its[m]) = some z' from hz')
        simpa using e1
      refine call_meets PySem.F.slot_tuple_index ⟨_, ho, rfl⟩ PySem.F.entry_tuple_index (PySem.F.args_tuple_index_2 _ _)
        (TI.tuple_indexAt a its.toArray n dd sls uy (fun u => PyData.eqv (SeqAt.readOf s.heap u) d) j hj ?_ ?_) ⟨ho, SeqAt.items_eqAt (vs := its.toArray) (show ReadsAll s.heap its.toArray.toList ds as from h4) r1 hxs (SeqAt.canLay_of_shaped sd) hroom, ?_⟩
      · show PyData.eqv (SeqAt.readOf s.heap its.toArray[j]) d = true
        rw [at_ j hj z hz]
        exact hzj
      · intro m hm hmj
        have hmd : m < ds.length := by omega
        have hz' : ds[m]? = some ds[m] := List.getElem?_eq_getElem hmd
        show PyData.eqv (SeqAt.readOf s.heap its.toArray[m]) d = false
        rw [at_ m hm _ hz']
        exact hno m _ hmj hz'
      · exact ⟨.int (j : Nat), H, I.tok _, ⟨_, rfl⟩, q⟩

/-! ### xs[i] read by values, for xs[i] op= e -/
theorem get_list : PGet X (rIxL X.K) := by
  intro pins s σ H o i ov iv Q I ro ri h
  obtain ⟨p, xs, k, z, rfl, rfl, hq, he, q⟩ := h
  cases ro
  obtain ⟨t, rfl⟩ := ri
  obtain ⟨its, r, pl, hz⟩ := I.list hq
  obtain ⟨j, h1, h2, h3, h4, h5⟩ := atI_get he
  obtain ⟨w, ew, rw'⟩ := r.get h2
  have hl := r.length
  have hn := line63
  have fin : EP X pins σ Q w s := ⟨z, H, I, rw', q⟩
  by_cases h0 : 0 ≤ k
  · have hj : k.toNat = j := by
      rw [seqIndex_of h0 h5] at h1
      exact Option.some.inj h1
    exact wpAny_getItem_list pl.isList h0 (by omega) (by rw [hj]; simpa using ew) fin
  · have hj : (k + (its.toArray.size : Int)).toNat = j := by
      rw [seqIndex_neg (by omega) h4] at h1
      rw [List.size_toArray, ← hl]
      exact Option.some.inj h1
    exact wpAny_getItem_list_neg pl.isList (by omega) (by rw [List.size_toArray] <;> omega) (by omega) (by rw [hj]; simpa using ew) fin
end
end Z

/-! Z: values without a heap, and how they lie in the heap. -/
namespace Z
open PySem PySem.Spec PyProof.Rows L2

inductive D where
  | non | bl (b : Bool) | int (i : Int) | str (x : Str) | tup (l : List D) | lst (l : List D) | dct (ks : List Key) (l : List D) | scr (l : List D)
  deriving Inhabited

mutual
def D.beq : D → D → Bool
  | .non, .non => true
  | .bl a, .bl b => a == b
  | .int a, .int b => a == b
  | .str a, .str b => a == b
  | .tup a, .tup b => D.beqL a b
  | .lst a, .lst b => D.beqL a b
  | .dct k a, .dct j b => decide (k = j) && D.beqL a b
  | .scr a, .scr b => D.beqL a b
  | _, _ => false
def D.beqL : List D → List D → Bool
  | [], [] => true
  | x :: xs, y :: ys => D.beq x y && D.beqL xs ys
  | _, _ => false
end
mutual
theorem D.beq_self : ∀ d : D, d.beq d = true
  | .non => by simp [D.beq]
  | .bl _ => by simp [D.beq]
  | .int _ => by simp [D.beq]
  | .str _ => by simp [D.beq]
  | .tup l => by simp [D.beq, D.beqL_self l]
  | .lst l => by simp [D.beq, D.beqL_self l]
  | .dct _ l => by simp [D.beq, D.beqL_self l]
  | .scr l => by simp [D.beq, D.beqL_self l]
theorem D.beqL_self : ∀ l : List D, D.beqL l l = true
  | [] => by simp [D.beqL]
  | x :: xs => by simp [D.beqL, D.beq_self x, D.beqL_self xs]
end
mutual
theorem D.beq_eq : ∀ d e : D, d.beq e = true → d = e
  | .non, e, h => by cases e <;> simp [D.beq] at h <;> rfl
  | .bl _, e, h => by cases e <;> simp [D.beq] at h <;> simp [h]
  | .int _, e, h => by cases e <;> simp [D.beq] at h <;> simp [h]
  | .str _, e, h => by cases e <;> simp [D.beq] at h <;> simp [h]
  | .tup l, e, h => by cases e <;> simp [D.beq] at h <;> rw [D.beqL_eq _ _ h]
  | .lst l, e, h => by cases e <;> simp [D.beq] at h <;> rw [D.beqL_eq _ _ h]
  | .dct _ l, e, h => by cases e <;> simp [D.beq] at h <;> rw [h.1, D.beqL_eq _ _ h.2]
  | .scr l, e, h => by cases e <;> simp [D.beq] at h <;> rw [D.beqL_eq _ _ h]
theorem D.beqL_eq : ∀ l m : List D, D.beqL l m = true → l = m
  | [], m, h => by cases m <;> simp [D.beqL] at h <;> rfl
  | x :: xs, m, h => by
    cases m with
    | nil => simp [D.beqL] at h
    | cons y ys => simp [D.beqL] at h; rw [D.beq_eq _ _ h.1, D.beqL_eq _ _ h.2]
end
instance : DecidableEq D := fun a b => if h : D.beq a b = true then .isTrue (D.beq_eq a b h) else .isFalse fun e => h (e ▸ D.beq_self a)

/-! ### who may write -/
inductive Own where
  | no | out | sl (i : Nat) | tm (n : Nat)
  deriving DecidableEq
abbrev OM := Addr → Own
def OM.re (w : OM) (o o' : Own) : OM := fun a => if w a = o then o' else w a
theorem OM.re_eq {w : OM} {o o' : Own} {a : Addr} (h : w a = o) : w.re o o' a = o' := by unfold OM.re; rw [if_pos h]
theorem OM.re_ne {w : OM} {o o' : Own} {a : Addr} (h : w a ≠ o) : w.re o o' a = w a := by unfold OM.re; rw [if_neg h]
def OM.put (w : OM) (p : Addr) (o : Own) : OM := fun a => if a = p then o else w a
theorem OM.put_same {w : OM} {p : Addr} {o : Own} : w.put p o p = o := by unfold OM.put; rw [if_pos rfl]
theorem OM.put_ne {w : OM} {p a : Addr} {o : Own} (h : a ≠ p) : w.put p o a = w a := by unfold OM.put; rw [if_neg h]

section
variable (K : PySem.W.Frag) (H : Hp) (w : OM)
def TupAt (a : Addr) (vs : List V) : Prop := ((∃ o, H a = some (.frz o (.tup vs)) ∧ o.dict = none) ∧ w a = .no) ∨
  ∃ (o : Obj) (its : Array Value) (n : Nat), K.lookup a = some o ∧ o.cls = .type "tuple" ∧ o.dict = none ∧ o.data = .seq its n ∧ its.size ≤ sizeLine ∧ Vals vs its.toList
def LstAt (a : Addr) (vs : List V) : Prop := (Rd H a (.lst vs) ∧ w a = .no) ∨
  ∃ (o : Obj) (its : Array Value) (n : Nat), K.lookup a = some o ∧ o.cls = .type "list" ∧ o.dict = none ∧ o.data = .seq its n ∧ its.size ≤ sizeLine ∧ Vals vs its.toList
mutual
/-- a value that nobody changes any more -/
inductive Fz : D → V → Prop
  | non : Fz .non .non
  | bl (b : Bool) : Fz (.bl b) (.bl b)
  | int (i : Int) : Fz (.int i) (.int i)
  | str (x : Str) : Fz (.str x) (.str x)
  | tup {a : Addr} {vs : List V} {ds : List D} : TupAt K H w a vs → FzL ds vs → Fz (.tup ds) (.ref a)
  | lst {a : Addr} {vs : List V} {ds : List D} : H a = some (.lst vs) → w a = .no → FzL ds vs → Fz (.lst ds) (.ref a)
  | scr {a : Addr} {vs : List V} {ds : List D} : LstAt K H w a vs → FzL ds vs → Fz (.scr ds) (.ref a)
  | dct {a : Addr} {kvs : List (Key × V)} {ks : List Key} {ds : List D} : Rd H a (.dK kvs) → w a = .no → kvs.map (·.1) = ks → FzL ds (kvs.map (·.2)) → Fz (.dct ks ds) (.ref a)
inductive FzL : List D → List V → Prop
  | nil : FzL [] []
  | cons {d : D} {v : V} {ds : List D} {vs : List V} : Fz d v → FzL ds vs → FzL (d :: ds) (v :: vs)
end
inductive Ow1L (o : Own) : List D → List V → Prop
  | nil : Ow1L o [] []
  | cons {a : Addr} {ws : List V} {e : List D} {ds : List D} {vs : List V} : H a = some (.lst ws) → w a = o → FzL K H w e ws → Ow1L o ds vs → Ow1L o (.lst e :: ds) (.ref a :: vs)
/-- a value owned by o, k levels deep -/
inductive Ow (o : Own) : Nat → D → V → Prop
  | fz {d : D} {v : V} : Fz K H w d v → Ow o 0 d v
  | lst {a : Addr} {vs : List V} {ds : List D} : H a = some (.lst vs) → w a = o → FzL K H w ds vs → Ow o 1 (.lst ds) (.ref a)
  | dct {a : Addr} {kvs : List (Key × V)} {ks : List Key} {ds : List D} : H a = some (.dK kvs) → w a = o → kvs.map (·.1) = ks → FzL K H w ds (kvs.map (·.2)) → Ow o 1 (.dct ks ds) (.ref a)
  | lst2 {a : Addr} {vs : List V} {ds : List D} : H a = some (.lst vs) → w a = o → Ow1L K H w o ds vs → vs.Nodup → Ow o 2 (.lst ds) (.ref a)
end

section
variable {K : PySem.W.Frag} {H H' : Hp} {w w' : OM} {o o' : Own} {a : Addr} {vs : List V} {d : D} {v : V} {ds : List D} {k : Nat}
theorem TupAt.sq (h : TupAt K H w a vs) : SqT K H a vs := by
  rcases h with ⟨⟨o, h, _⟩, _⟩ | ⟨o, its, n, h1, h2, _, h3⟩
  · exact .inl (.inr ⟨o, h⟩)
  · exact .inr ⟨o, its, n, h1, h2, h3⟩
theorem TupAt.rc (h : TupAt K H w a vs) : TupRc K H a := by
  rcases h with ⟨⟨o, h, hd⟩, _⟩ | ⟨o, its, n, h1, h2, h3, _⟩
  · exact .inl ⟨o, vs, h, hd⟩
  · exact .inr ⟨o, h1, h2, h3⟩
theorem LstAt.sq (h : LstAt K H w a vs) : SqL K H a vs := by
  rcases h with ⟨h, _⟩ | h
  · exact .inl h
  · exact .inr h
theorem FzL.length : ∀ {ds : List D} {vs : List V}, FzL K H w ds vs → ds.length = vs.length
  | _, _, .nil => rfl
  | _, _, .cons _ t => by rw [List.length_cons, List.length_cons, FzL.length t]
theorem FzL.get : ∀ {ds : List D} {vs : List V} {i : Nat} {d : D}, FzL K H w ds vs → ds[i]? = some d → ∃ v, vs[i]? = some v ∧ Fz K H w d v
  | _, _, _, _, .nil, e => by simp at e
  | _, _, 0, _, .cons r _, e => by simp at e; subst e; exact ⟨_, rfl, r⟩
  | _, _, i + 1, _, .cons _ t, e => by simpa using FzL.get t (i := i) (by simpa using e)
theorem FzL.getV : ∀ {ds : List D} {vs : List V} {i : Nat} {v : V}, FzL K H w ds vs → vs[i]? = some v → ∃ d, ds[i]? = some d ∧ Fz K H w d v
  | _, _, _, _, .nil, e => by simp at e
  | _, _, 0, _, .cons r _, e => by simp at e; subst e; exact ⟨_, rfl, r⟩
  | _, _, i + 1, _, .cons _ t, e => by simpa using FzL.getV t (i := i) (by simpa using e)
theorem FzL.append : ∀ {ds es : List D} {vs us : List V}, FzL K H w ds vs → FzL K H w es us → FzL K H w (ds ++ es) (vs ++ us)
  | _, _, _, _, .nil, s => s
  | _, _, _, _, .cons r t, s => .cons r (FzL.append t s)
theorem FzL.take : ∀ {ds : List D} {vs : List V} (n : Nat), FzL K H w ds vs → FzL K H w (ds.take n) (vs.take n)
  | _, _, 0, _ => .nil
  | _, _, _ + 1, .nil => .nil
  | _, _, n + 1, .cons r t => .cons r (FzL.take n t)
theorem FzL.drop : ∀ {ds : List D} {vs : List V} (n : Nat), FzL K H w ds vs → FzL K H w (ds.drop n) (vs.drop n)
  | _, _, 0, r => r
  | _, _, _ + 1, .nil => .nil
  | _, _, n + 1, .cons _ t => FzL.drop n t
theorem FzL.set (r : Fz K H w d v) : ∀ {ds : List D} {vs : List V} (i : Nat), FzL K H w ds vs → FzL K H w (ds.set i d) (vs.set i v)
  | _, _, _, .nil => .nil
  | _, _, 0, .cons _ t => .cons r t
  | _, _, i + 1, .cons q t => .cons q (FzL.set r i t)
theorem FzL.eraseIdx : ∀ {ds : List D} {vs : List V} (i : Nat), FzL K H w ds vs → FzL K H w (ds.eraseIdx i) (vs.eraseIdx i)
  | _, _, _, .nil => .nil
  | _, _, 0, .cons _ t => t
  | _, _, i + 1, .cons q t => .cons q (FzL.eraseIdx i t)
theorem FzL.reverse {ds : List D} {vs : List V} (h : FzL K H w ds vs) : FzL K H w ds.reverse vs.reverse := by
  induction h using FzL.rec (motive_1 := fun _ _ _ => True) with
  | nil => exact .nil
  | cons r t _ ih => rw [List.reverse_cons, List.reverse_cons]; exact ih.append (.cons r .nil)
  | _ => trivial
theorem FzL.dropLast {ds : List D} {vs : List V} (h : FzL K H w ds vs) : FzL K H w ds.dropLast vs.dropLast := by
  rw [List.dropLast_eq_take, List.dropLast_eq_take, h.length]
  exact h.take _
theorem FzL.rep {ds : List D} {vs : List V} (h : FzL K H w ds vs) : ∀ k : Nat, FzL K H w (List.replicate k ds).flatten (List.replicate k vs).flatten
  | 0 => .nil
  | k + 1 => by
    rw [List.replicate_succ, List.replicate_succ, List.flatten_cons, List.flatten_cons]
    exact h.append (FzL.rep h k)
theorem FzL.ints : ∀ {ns : List Int} {vs : List V}, FzL K H w (ns.map D.int) vs → vs = ns.map V.int
  | [], _, .nil => rfl
  | n :: ns, _, .cons (.int _) t => by rw [FzL.ints t]; rfl
theorem FzL.of_ints : ∀ (ns : List Int), FzL K H w (ns.map D.int) (ns.map V.int)
  | [] => .nil
  | n :: ns => .cons (.int n) (FzL.of_ints ns)
theorem FzL.bls : ∀ {ns : List Bool} {vs : List V}, FzL K H w (ns.map D.bl) vs → vs = ns.map V.bl
  | [], _, .nil => rfl
  | n :: ns, _, .cons (.bl _) t => by rw [FzL.bls t]; rfl
theorem FzL.of_bls : ∀ (ns : List Bool), FzL K H w (ns.map D.bl) (ns.map V.bl)
  | [] => .nil
  | n :: ns => .cons (.bl n) (FzL.of_bls ns)
theorem FzL.strs : ∀ {ns : List Str} {vs : List V}, FzL K H w (ns.map D.str) vs → vs = ns.map V.str
  | [], _, .nil => rfl
  | n :: ns, _, .cons (.str _) t => by rw [FzL.strs t]; rfl
theorem FzL.of_strs : ∀ (ns : List Str), FzL K H w (ns.map D.str) (ns.map V.str)
  | [] => .nil
  | n :: ns => .cons (.str n) (FzL.of_strs ns)

/-! ### what steps keep -/
/-- what is frozen at (H, w) is so at (H', w') -/
def Kp (o : Own) (H : Hp) (w : OM) (H' : Hp) (w' : OM) : Prop := ∀ a x, H a = some x → (w a = .no ∨ w a = o) → H' a = some x ∧ w' a = w a
theorem Kp.rd {u : HO} (k : Kp o H w H' w') (h : Rd H a u) (n : w a = .no) : Rd H' a u ∧ w' a = .no := by
  rcases h with h | ⟨q, h⟩
  · obtain ⟨h1, h2⟩ := k a _ h (.inl n)
    exact ⟨.inl h1, h2.trans n⟩
  · obtain ⟨h1, h2⟩ := k a _ h (.inl n)
    exact ⟨.inr ⟨q, h1⟩, h2.trans n⟩
theorem TupAt.step (k : Kp o H w H' w') (h : TupAt K H w a vs) : TupAt K H' w' a vs := by
  rcases h with ⟨⟨q, h, hd⟩, n⟩ | h
  · exact .inl ⟨⟨q, (k a _ h (.inl n)).1, hd⟩, (k a _ h (.inl n)).2.trans n⟩
  · exact .inr h
theorem LstAt.step (k : Kp o H w H' w') (h : LstAt K H w a vs) : LstAt K H' w' a vs := by
  rcases h with ⟨h, n⟩ | h
  · exact .inl (k.rd h n)
  · exact .inr h
mutual
theorem Fz.step (k : Kp o H w H' w') : ∀ {d : D} {v : V}, Fz K H w d v → Fz K H' w' d v
  | _, _, .non => .non
  | _, _, .bl b => .bl b
  | _, _, .int i => .int i
  | _, _, .str x => .str x
  | _, _, .tup h t => .tup (h.step k) (FzL.step k t)
  | _, _, .lst h n t => .lst (k _ _ h (.inl n)).1 ((k _ _ h (.inl n)).2.trans n) (FzL.step k t)
  | _, _, .scr h t => .scr (h.step k) (FzL.step k t)
  | _, _, .dct h n e t => .dct (k.rd h n).1 (k.rd h n).2 e (FzL.step k t)
theorem FzL.step (k : Kp o H w H' w') : ∀ {ds : List D} {vs : List V}, FzL K H w ds vs → FzL K H' w' ds vs
  | _, _, .nil => .nil
  | _, _, .cons h t => .cons (Fz.step k h) (FzL.step k t)
end
theorem Ow1L.step (k : Kp o H w H' w') : ∀ {ds : List D} {vs : List V}, Ow1L K H w o ds vs → Ow1L K H' w' o ds vs
  | _, _, .nil => .nil
  | _, _, .cons h n t r => .cons (k _ _ h (.inr n)).1 ((k _ _ h (.inr n)).2.trans n) (t.step k) (Ow1L.step k r)
theorem Ow.step (k' : Kp o H w H' w') (h : Ow K H w o k d v) : Ow K H' w' o k d v := by
  cases h with
  | fz h => exact .fz (h.step k')
  | lst h n t => exact .lst (k' _ _ h (.inr n)).1 ((k' _ _ h (.inr n)).2.trans n) (t.step k')
  | dct h n e t => exact .dct (k' _ _ h (.inr n)).1 ((k' _ _ h (.inr n)).2.trans n) e (t.step k')
  | lst2 h n t nd => exact .lst2 (k' _ _ h (.inr n)).1 ((k' _ _ h (.inr n)).2.trans n) (t.step k') nd

/-! ### relabelling -/
theorem Kp.re (ho : o ≠ .no) (o1 : Own) (h1 : o1 ≠ o) : Kp o1 H w H (w.re o o') := fun a x e h => by
  refine ⟨e, OM.re_ne ?_⟩
  rcases h with h | h
  · rw [h]; exact ho.symm
  · rw [h]; exact h1
theorem Fz.re (ho : o ≠ .no) (h : Fz K H w d v) : Fz K H (w.re o o') d v := h.step (Kp.re ho .no ho.symm)
theorem FzL.re (ho : o ≠ .no) (h : FzL K H w ds vs) : FzL K H (w.re o o') ds vs := h.step (Kp.re ho .no ho.symm)
theorem Ow.other {o1 : Own} (ho : o ≠ .no) (h1 : o1 ≠ o) (h : Ow K H w o1 k d v) : Ow K H (w.re o o') o1 k d v := h.step (Kp.re ho o1 h1)
theorem Ow1L.re (ho : o ≠ .no) : ∀ {ds : List D} {vs : List V}, Ow1L K H w o ds vs → Ow1L K H (w.re o o') o' ds vs
  | _, _, .nil => .nil
  | _, _, .cons h n t r => .cons h (OM.re_eq n) (t.re ho) (Ow1L.re ho r)
theorem Ow.re (ho : o ≠ .no) (h : Ow K H w o k d v) : Ow K H (w.re o o') o' k d v := by
  cases h with
  | fz h => exact .fz (h.re ho)
  | lst h n t => exact .lst h (OM.re_eq n) (t.re ho)
  | dct h n e t => exact .dct h (OM.re_eq n) e (t.re ho)
  | lst2 h n t nd => exact .lst2 h (OM.re_eq n) (t.re ho) nd
theorem Ow1L.freeze (ho : o ≠ .no) : ∀ {ds : List D} {vs : List V}, Ow1L K H w o ds vs → FzL K H (w.re o .no) ds vs
  | _, _, .nil => .nil
  | _, _, .cons h n t r => .cons (.lst h (OM.re_eq n) (t.re ho)) (Ow1L.freeze ho r)
theorem Ow.freeze (ho : o ≠ .no) (h : Ow K H w o k d v) : Fz K H (w.re o .no) d v := by
  cases h with
  | fz h => exact h.re ho
  | lst h n t => exact .lst h (OM.re_eq n) (t.re ho)
  | dct h n e t => exact .dct (.inl h) (OM.re_eq n) e (t.re ho)
  | lst2 h n t nd => exact .lst h (OM.re_eq n) (t.freeze ho)
end

/-! ### environments -/
/-- a slot: its value, how deep it may be written -/
structure Cell where
  d : D
  k : Nat := 0
  deriving DecidableEq, Inhabited
abbrev Env := List (Option Cell)
def Env.get : Env → Nat → Option Cell
  | [], _ => none
  | c :: _, 0 => c
  | _ :: r, n + 1 => Env.get r n
def Env.set : Env → Nat → Option Cell → Env
  | [], _, _ => []
  | _ :: r, 0, c => c :: r
  | x :: r, n + 1, c => x :: Env.set r n c
theorem Env.get_set_same : ∀ {ρ : Env} {i : Nat} {c x : Option Cell}, i < ρ.length → (Env.set ρ i c).get i = c
  | [], _, _, _, h => by simp at h
  | _ :: _, 0, _, _, _ => rfl
  | _ :: r, i + 1, c, x, h => Env.get_set_same (ρ := r) (x := x) (by simpa using h)
theorem Env.get_set_ne : ∀ {ρ : Env} {i j : Nat} {c : Option Cell}, j ≠ i → (Env.set ρ i c).get j = ρ.get j
  | [], _, _, _, _ => rfl
  | _ :: _, 0, 0, _, h => absurd rfl h
  | _ :: _, 0, _ + 1, _, _ => rfl
  | _ :: _, _ + 1, 0, _, _ => rfl
  | _ :: r, i + 1, j + 1, _, h => Env.get_set_ne (ρ := r) (fun e => h (by rw [e]))
theorem Env.length_set : ∀ {ρ : Env} {i : Nat} {c : Option Cell}, (Env.set ρ i c).length = ρ.length
  | [], _, _ => rfl
  | _ :: _, 0, _ => rfl
  | _ :: r, i + 1, c => by show (Env.set r i c).length + 1 = _; rw [Env.length_set]; rfl
theorem Env.get_lt : ∀ {ρ : Env} {i : Nat} {c : Cell}, ρ.get i = some c → i < ρ.length
  | [], _, _, h => by cases h
  | _ :: _, 0, _, _ => by simp
  | _ :: r, i + 1, _, h => by have := Env.get_lt (ρ := r) h; simp; omega
theorem Env.get_set {ρ : Env} {i j : Nat} {c : Option Cell} {x : Cell} (h : (Env.set ρ i c).get j = some x) : (j = i ∧ c = some x) ∨ (j ≠ i ∧ ρ.get j = some x) := by
  by_cases e : j = i
  · subst e
    have hl : j < ρ.length := by have := Env.get_lt h; rwa [Env.length_set] at this
    rw [Env.get_set_same (x := none) hl] at h
    exact .inl ⟨rfl, h⟩
  · rw [Env.get_set_ne e] at h
    exact .inr ⟨e, h⟩

/-! ### results -/
inductive R (α : Type) where
  | ok (a : α) | exc (c : Str) (ds : List D) | bad
def R.bind {α β : Type} : R α → (α → R β) → R β
  | .ok a, f => f a
  | .exc c ds, _ => .exc c ds
  | .bad, _ => .bad
instance : Monad R where
  pure := R.ok
  bind := R.bind
@[simp] theorem R.ok_bind {α β : Type} (a : α) (f : α → R β) : (R.ok a >>= f) = f a := rfl
@[simp] theorem R.bad_bind {α β : Type} (f : α → R β) : ((R.bad : R α) >>= f) = R.bad := rfl
@[simp] theorem R.exc_bind {α β : Type} (c : Str) (ds : List D) (f : α → R β) : ((R.exc c ds : R α) >>= f) = R.exc c ds := rfl
@[simp] theorem R.pure_eq {α : Type} (a : α) : (pure a : R α) = .ok a := rfl
theorem R.of_bind {α β : Type} {r : R α} {f : α → R β} {b : β} (h : (r >>= f) = .ok b) : ∃ a, r = .ok a ∧ f a = .ok b := by
  cases r with
  | ok a => exact ⟨a, rfl, h⟩
  | exc c ds => cases h
  | bad => cases h

/-! ### states -/
section
variable (K : PySem.W.Frag) (H : Hp) (w : OM)
structure Ok (σ : L2.St) (ρ : Env) : Prop where
  len : σ.length = ρ.length
  slot : ∀ i c, ρ.get i = some c → ∃ v, σ[i]? = some (some v) ∧ Ow K H w (.sl i) c.k c.d v
  live : ∀ a, w a ≠ .no → H a ≠ none
end
def Fixed (n : Nat) (o : Own) : Prop := o = .no ∨ o = .out ∨ ∃ j, j < n ∧ o = .tm j
theorem Fixed.mono {n m : Nat} {o : Own} (h : n ≤ m) (f : Fixed n o) : Fixed m o := by
  rcases f with f | f | ⟨j, hj, f⟩
  · exact .inl f
  · exact .inr (.inl f)
  · exact .inr (.inr ⟨j, by omega, f⟩)
theorem not_fixed_sl {n i : Nat} : ¬ Fixed n (.sl i) := by
  rintro (f | f | ⟨j, _, f⟩) <;> cases f
theorem not_fixed_tm {n : Nat} : ¬ Fixed n (.tm n) := by
  rintro (f | f | ⟨j, h, f⟩)
  · cases f
  · cases f
  · cases f; omega
/-- a step that may write the slots, not what is pending below n -/
def Step (n : Nat) (H : Hp) (w : OM) (H' : Hp) (w' : OM) : Prop := ∀ a x, H a = some x → Fixed n (w a) → H' a = some x ∧ w' a = w a
section
variable {K : PySem.W.Frag} {H H' H1 H2 : Hp} {w w' w1 w2 : OM} {n m : Nat} {σ : L2.St} {ρ : Env} {o o' : Own} {a : Addr} {k : Nat} {d : D} {v : V}
theorem Step.refl : Step n H w H w := fun _ _ h _ => ⟨h, rfl⟩
theorem Step.trans (a : Step n H w H1 w1) (b : Step n H1 w1 H2 w2) : Step n H w H2 w2 := fun p x h f => by
  obtain ⟨h1, e1⟩ := a p x h f
  obtain ⟨h2, e2⟩ := b p x h1 (by rw [e1]; exact f)
  exact ⟨h2, e2.trans e1⟩
theorem Step.mono (h : n ≤ m) (a : Step m H w H' w') : Step n H w H' w' := fun p x e f => a p x e (f.mono h)
theorem Step.kp (a : Step n H w H' w') (f : Fixed n o) : Kp o H w H' w' := fun p x e h => a p x e (by
  rcases h with h | h
  · rw [h]; exact .inl rfl
  · rw [h]; exact f)
theorem Step.fz (a : Step n H w H' w') (h : Fz K H w d v) : Fz K H' w' d v := h.step (a.kp (o := .no) (.inl rfl))
theorem Step.tm (a : Step n H w H' w') (j : Nat) (hj : j < n) (h : Ow K H w (.tm j) k d v) : Ow K H' w' (.tm j) k d v := h.step (a.kp (.inr (.inr ⟨j, hj, rfl⟩)))
/-- a label is changed that n does not fix -/
theorem Step.re (ho : ¬ Fixed n o) : Step n H w H (w.re o o') := fun a x e f => ⟨e, OM.re_ne fun z => ho (by rw [← z]; exact f)⟩
/-- a fresh object -/
theorem Step.new {p : Addr} {u : HO} (hp : H p = none) : Step n H w (upd H p u) (w.put p o) := fun a x e f => by
  have h : a ≠ p := ne_of_none e hp
  exact ⟨by rw [upd_ne h]; exact e, OM.put_ne h⟩
/-- an object written whose owner n does not fix -/
theorem Step.write {p : Addr} {u : HO} (ho : ¬ Fixed n (w p)) : Step n H w (upd H p u) w := fun a x e f => by
  have h : a ≠ p := fun z => ho (by rw [← z]; exact f)
  exact ⟨by rw [upd_ne h]; exact e, rfl⟩
theorem Kp.new {p : Addr} {u : HO} (hp : H p = none) (o1 : Own) : Kp o1 H w (upd H p u) (w.put p o) := fun a x e f => by
  have h : a ≠ p := ne_of_none e hp
  exact ⟨by rw [upd_ne h]; exact e, OM.put_ne h⟩
theorem Kp.write {p : Addr} {u : HO} {o1 : Own} (h0 : w p ≠ .no) (h1 : w p ≠ o1) : Kp o1 H w (upd H p u) w := fun a x e f => by
  have h : a ≠ p := fun z => by
    subst z
    rcases f with f | f
    · exact h0 f
    · exact h1 f
  exact ⟨by rw [upd_ne h]; exact e, rfl⟩
theorem Ok.new {p : Addr} {u : HO} (ok : Ok K H w σ ρ) (hp : H p = none) (o : Own) : Ok K (upd H p u) (w.put p o) σ ρ := by
  refine ⟨ok.len, fun i c e => ?_, fun a h => ?_⟩
  · obtain ⟨v, e1, h⟩ := ok.slot i c e
    exact ⟨v, e1, h.step (Kp.new hp _)⟩
  · by_cases z : a = p
    · subst z; rw [upd_same]; exact fun q => nomatch q
    · rw [upd_ne z]; rw [OM.put_ne z] at h; exact ok.live a h
/-- what is of a temp becomes frozen, or another temp's, the slots stay -/
theorem Ok.re (ok : Ok K H w σ ρ) (ho : o ≠ .no) (hs : ∀ i, o ≠ .sl i) : Ok K H (w.re o o') σ ρ := by
  refine ⟨ok.len, fun i c e => ?_, fun a h => ?_⟩
  · obtain ⟨v, e1, h⟩ := ok.slot i c e
    exact ⟨v, e1, h.other ho (hs i).symm⟩
  · by_cases z : w a = o
    · exact ok.live a (by rw [z]; exact ho)
    · rw [OM.re_ne z] at h; exact ok.live a h
/-- a slot is frozen -/
theorem Ok.freeze {i : Nat} {c : Cell} (ok : Ok K H w σ ρ) (e : ρ.get i = some c) : Ok K H (w.re (.sl i) .no) σ (ρ.set i (some ⟨c.d, 0⟩)) := by
  refine ⟨by rw [Env.length_set]; exact ok.len, fun j x q => ?_, fun a h => ?_⟩
  · rcases Env.get_set q with ⟨ej, qx⟩ | ⟨hj, q⟩
    · subst ej
      cases qx
      obtain ⟨v, e1, h⟩ := ok.slot j c e
      exact ⟨v, e1, .fz (h.freeze (by intro z; cases z))⟩
    · obtain ⟨v, e1, h⟩ := ok.slot j x q
      exact ⟨v, e1, h.other (by intro z; cases z) (by intro z; cases z; exact hj rfl)⟩
  · by_cases z : w a = .sl i
    · exact ok.live a (by rw [z]; intro q; cases q)
    · rw [OM.re_ne z] at h; exact ok.live a h
end
end Z

/-! Z: expressions. -/
namespace Z
open PySem PySem.Spec PyProof.Rows L2

inductive Src where
  | v (c : Cell) | s (i : Nat)
def Src.cell (ρ : Env) : Src → Option Cell
  | .v c => some c
  | .s i => ρ.get i
abbrev AE := Env → R (Src × Env)
def cells (ρ : Env) : List Src → Option (List Cell)
  | [] => some []
  | s :: ss => match s.cell ρ, cells ρ ss with
    | some c, some cs => some (c :: cs)
    | _, _ => none
def evs : List AE → Env → R (List Src × Env)
  | [], ρ => .ok ([], ρ)
  | m :: ms, ρ => do
    let (s, ρ1) ← m ρ
    let (ss, ρ2) ← evs ms ρ1
    R.ok (s :: ss, ρ2)
def SrcAt (K : PySem.W.Frag) (H : Hp) (w : OM) (σ : L2.St) (n : Nat) : Src → V → Prop
  | .v c, v => Ow K H w (.tm n) c.k c.d v
  | .s i, v => σ[i]? = some (some v)
def SrcsAt (K : PySem.W.Frag) (H : Hp) (w : OM) (σ : L2.St) : Nat → List Src → List V → Prop
  | _, [], [] => True
  | n, s :: ss, v :: vs => SrcAt K H w σ n s v ∧ SrcsAt K H w σ (n + 1) ss vs
  | _, _, _ => False
/-- values by cells, whoever owns them -/
inductive OwA (K : PySem.W.Frag) (H : Hp) (w : OM) : List Cell → List V → Prop
  | nil : OwA K H w [] []
  | cons {c : Cell} {v : V} {cs : List Cell} {vs : List V} {o : Own} : o ≠ .no → Ow K H w o c.k c.d v → OwA K H w cs vs → OwA K H w (c :: cs) (v :: vs)
section
variable {K : PySem.W.Frag} {H H' : Hp} {w w' : OM} {σ : L2.St} {ρ : Env} {n m : Nat}
theorem SrcAt.step {s : Src} {v : V} (h : SrcAt K H w σ n s v) (st : Step m H w H' w') (hm : n < m) : SrcAt K H' w' σ n s v := by
  cases s with
  | v c => exact st.tm n hm h
  | s i => exact h
theorem SrcAt.cell {s : Src} {v : V} {c : Cell} (ok : Ok K H w σ ρ) (h : SrcAt K H w σ n s v) (e : s.cell ρ = some c) : ∃ o, o ≠ .no ∧ Ow K H w o c.k c.d v := by
  cases s with
  | v c' =>
    cases (show some c' = some c from e)
    exact ⟨.tm n, (by intro z; cases z), h⟩
  | s i =>
    obtain ⟨u, e1, q⟩ := ok.slot i c e
    have h : σ[i]? = some (some v) := h
    rw [h] at e1
    cases e1
    exact ⟨.sl i, (by intro z; cases z), q⟩
theorem SrcsAt.cells : ∀ {ss : List Src} {vs : List V} {cs : List Cell} {n : Nat}, Ok K H w σ ρ → SrcsAt K H w σ n ss vs → Z.cells ρ ss = some cs → OwA K H w cs vs
  | [], [], cs, n, ok, h, e => by cases e; exact .nil
  | [], _ :: _, _, _, _, h, _ => h.elim
  | _ :: _, [], _, _, _, h, _ => h.elim
  | s :: ss, v :: vs, cs, n, ok, ⟨h, t⟩, e => by
    unfold Z.cells at e
    cases e1 : s.cell ρ with
    | none => rw [e1] at e; cases e
    | some c =>
      cases e2 : Z.cells ρ ss with
      | none => rw [e1, e2] at e; cases e
      | some cs' =>
        rw [e1, e2] at e
        cases e
        obtain ⟨o, ho, q⟩ := h.cell ok e1
        exact .cons ho q (SrcsAt.cells ok t e2)
end

/-! ### what holds of an expression -/
structure SA (X : Cx) (e : Expr) (m : AE) : Prop where
  ex : ∃ t, PE X e t ∧ ∀ (n : Nat) (σ : L2.St) (H : Hp) (w : OM) (ρ : Env) (s : Src) (ρ' : Env) (Q : VK), Ok X.K H w σ ρ → m ρ = .ok (s, ρ') →
    (∀ v H' w', Ok X.K H' w' σ ρ' → Step n H w H' w' → SrcAt X.K H' w' σ n s v → Q v H') → t σ H Q
structure SAs (X : Cx) (es : List Expr) (ms : List AE) : Prop where
  ex : ∃ t, PA X es t ∧ ∀ (n : Nat) (σ : L2.St) (H : Hp) (w : OM) (ρ : Env) (ss : List Src) (ρ' : Env) (Q : List V → Hp → Prop), Ok X.K H w σ ρ → evs ms ρ = .ok (ss, ρ') →
    (∀ vs H' w', Ok X.K H' w' σ ρ' → Step n H w H' w' → SrcsAt X.K H' w' σ n ss vs → Q vs H') → t σ H Q
theorem PE.or {X : Cx} {e : Expr} {t u : TE} (h : PE X e t) (h' : PE X e u) : PE X e (fun σ H Q => t σ H Q ∨ u σ H Q) := ⟨fun pins s σ H Q I q => by
  rcases q with q | q
  · exact h.run pins s σ H Q I q
  · exact h'.run pins s σ H Q I q⟩
section
variable {X : Cx} {e a b : Expr} {es : List Expr} {m ma mb : AE} {ms : List AE} {pos : Pos}
theorem sas_nil : SAs X [] [] := ⟨_, pa_nil, fun n σ H w ρ ss ρ' Q ok h k => by
  cases h
  exact k [] H w ok Step.refl trivial⟩
theorem sas_cons (ha : SA X e m) (hr : SAs X es ms) (hs : starEach (e :: es) X.env = (false, eval e X.env) :: starEach es X.env := by rfl) : SAs X (e :: es) (m :: ms) := by
  obtain ⟨t, p, h⟩ := ha.ex
  obtain ⟨u, q, g⟩ := hr.ex
  refine ⟨_, pa_cons p q hs, fun n σ H w ρ ss ρ' Q ok hm k => ?_⟩
  obtain ⟨⟨s, ρ1⟩, e1, hm⟩ := R.of_bind hm
  obtain ⟨⟨ss2, ρ2⟩, e2, hm⟩ := R.of_bind hm
  cases hm
  refine h n σ H w ρ s ρ1 _ ok e1 fun v H1 w1 ok1 st1 s1 => ?_
  refine g (n + 1) σ H1 w1 ρ1 ss2 _ _ ok1 e2 fun vs H2 w2 ok2 st2 s2 => ?_
  exact k _ H2 w2 ok2 (st1.trans (st2.mono (Nat.le_succ n))) ⟨s1.step st2 (Nat.lt_succ_self n), s2⟩

/-! ### names, constants -/
def aVar (i : Nat) : AE := fun ρ => match ρ.get i with
  | some _ => .ok (.s i, ρ)
  | none => .bad
theorem sa_var {i : Nat} {x : Str} {pos : Pos} (hN : X.N[i]? = some x := by rfl) (hv : Vis X.env.scope x := by first | exact Or.inl rfl | exact Or.inr (Or.inl rfl) | exact Or.inr (Or.inr rfl))
    (hd : (x == ("__debug__" : Str)) = false := by decide) (hcd : (x == ("__classdict__" : Str)) = false := by decide) : SA X (.Name x pos) (aVar i) := by
  refine ⟨_, pe_var hN hv hd hcd, fun n σ H w ρ s ρ' Q ok hm k => ?_⟩
  unfold aVar at hm
  cases e : ρ.get i with
  | none => rw [e] at hm; cases hm
  | some c =>
    rw [e] at hm
    cases hm
    obtain ⟨v, h1, _⟩ := ok.slot i c e
    exact ⟨v, h1, k v H w ok Step.refl h1⟩
def Cell.fz (d : D) : Cell := ⟨d, 0⟩
def aC (d : D) : AE := fun ρ => .ok (.v (Cell.fz d), ρ)
theorem sa_const {v : V} {d : D} (p : PE X e (tC v)) (h : ∀ H w, Fz X.K H w d v) : SA X e (aC d) := ⟨_, p, fun n σ H w ρ s ρ' Q ok hm k => by
  cases hm
  exact k v H w ok Step.refl (.fz (h H w))⟩
theorem sa_int {i : Int} {j : Nat} {pos : Pos} : SA X (.Constant (.int i) j pos) (aC (.int i)) := sa_const pe_int fun _ _ => .int i
theorem sa_bl {i : Bool} {j : Nat} {pos : Pos} : SA X (.Constant (.bool i) j pos) (aC (.bl i)) := sa_const pe_bl fun _ _ => .bl i
theorem sa_non {j : Nat} {pos : Pos} : SA X (.Constant .none j pos) (aC .non) := sa_const pe_non fun _ _ => .non
theorem sa_str {i : Str} {j : Nat} {pos : Pos} : SA X (.Constant (.str i) j pos) (aC (.str i)) := sa_const pe_str fun _ _ => .str i
theorem sa_gint {x : Str} {i : Int} {pos : Pos} (hm : ∃ t, X.mg x = some (.int i t)) (hg : Gl X x := by rfl) (hd : (x == ("__debug__" : Str)) = false := by decide) : SA X (.Name x pos) (aC (.int i)) := by
  obtain ⟨t, hm⟩ := hm
  exact sa_const (v := .int i) (pe_glob hg hm ⟨t, rfl⟩ hd) fun _ _ => .int i
theorem sa_gstr {x z : Str} {pos : Pos} (hm : ∃ t, X.mg x = some (.str z t)) (hg : Gl X x := by rfl) (hd : (x == ("__debug__" : Str)) = false := by decide) : SA X (.Name x pos) (aC (.str z)) := by
  obtain ⟨t, hm⟩ := hm
  exact sa_const (v := .str z) (pe_glob hg hm ⟨t, rfl⟩ hd) fun _ _ => .str z

/-! ### operations on values -/
/-- f tells what the operation by values r makes -/
def CallS (X : Cx) (r : List V → Hp → VK → Prop) (f : List Cell → R Cell) : Prop :=
  ∀ (n : Nat) (H : Hp) (w : OM) (σ : L2.St) (ρ : Env) (cs : List Cell) (vs : List V) (c : Cell) (Q : VK), Ok X.K H w σ ρ → OwA X.K H w cs vs → f cs = .ok c →
    (∀ v H' w', Ok X.K H' w' σ ρ → Step n H w H' w' → Ow X.K H' w' (.tm n) c.k c.d v → Q v H') → r vs H Q
def r2L (r : R2) : List V → Hp → VK → Prop := fun vs H Q => match vs with
  | [x, y] => r x y H Q
  | _ => False
def r1L (r : V → Hp → VK → Prop) : List V → Hp → VK → Prop := fun vs H Q => match vs with
  | [x] => r x H Q
  | _ => False
def mPrim (f : List Cell → R Cell) (ms : List AE) : AE := fun ρ => do
  let (ss, ρ1) ← evs ms ρ
  match cells ρ1 ss with
  | some cs => do
    let c ← f cs
    R.ok (.v c, ρ1)
  | none => R.bad
theorem mPrim_ok {f : List Cell → R Cell} {ρ ρ' : Env} {s : Src} (h : mPrim f ms ρ = .ok (s, ρ')) : ∃ ss cs c, evs ms ρ = .ok (ss, ρ') ∧ cells ρ' ss = some cs ∧ f cs = .ok c ∧ s = .v c := by
  obtain ⟨⟨ss, ρ1⟩, e1, h⟩ := R.of_bind h
  dsimp only at h
  cases e2 : cells ρ1 ss with
  | none => rw [e2] at h; cases h
  | some cs =>
    rw [e2] at h
    obtain ⟨c, e3, h⟩ := R.of_bind h
    cases h
    exact ⟨ss, cs, c, e1, e2, e3, rfl⟩
/-- by an argument list -/
theorem sa_prim {f : List Cell → R Cell} {r : List V → Hp → VK → Prop} (hs : CallS X r f) (ha : SAs X es ms) (hp : ∀ t, PA X es t → PE X e (fun σ H Q => t σ H fun vs H1 => r vs H1 Q)) : SA X e (mPrim f ms) := by
  obtain ⟨t, p, h⟩ := ha.ex
  refine ⟨_, hp t p, fun n σ H w ρ s ρ' Q ok hm k => ?_⟩
  obtain ⟨ss, cs, c, e1, e2, e3, rfl⟩ := mPrim_ok hm
  refine h n σ H w ρ ss ρ' _ ok e1 fun vs H1 w1 ok1 st1 s1 => ?_
  exact hs n H1 w1 σ ρ' cs vs c Q ok1 (s1.cells ok1 e2) e3 fun v H2 w2 ok2 st2 q => k v H2 w2 ok2 (st1.trans st2) q
/-- by two expressions in a row -/
theorem sa_prim2 {f : List Cell → R Cell} {r : R2} (hs : CallS X (r2L r) f) (ha : SA X a ma) (hb : SA X b mb) (hp : ∀ t u, PE X a t → PE X b u → PE X e (tOp r t u)) : SA X e (mPrim f [ma, mb]) := by
  obtain ⟨t, p, h⟩ := ha.ex
  obtain ⟨u, q, g⟩ := hb.ex
  refine ⟨_, hp t u p q, fun n σ H w ρ s ρ' Q ok hm k => ?_⟩
  obtain ⟨ss, cs, c, e1, e2, e3, rfl⟩ := mPrim_ok hm
  obtain ⟨⟨s1, ρ1⟩, f1, e1⟩ := R.of_bind e1
  obtain ⟨⟨ss2, ρ2⟩, f2, e1⟩ := R.of_bind e1
  cases e1
  obtain ⟨⟨s2, ρ3⟩, f3, f2⟩ := R.of_bind f2
  cases f2
  refine h n σ H w ρ s1 ρ1 _ ok f1 fun v H1 w1 ok1 st1 q1 => ?_
  refine g (n + 1) σ H1 w1 ρ1 s2 ρ' _ ok1 f3 fun v2 H2 w2 ok2 st2 q2 => ?_
  refine hs n H2 w2 σ ρ' cs [v, v2] c Q ok2 (SrcsAt.cells (n := n) (ss := [s1, s2]) (vs := [v, v2]) ok2 ⟨q1.step st2 (Nat.lt_succ_self n), q2, trivial⟩ e2) e3 fun v3 H3 w3 ok3 st3 q3 => ?_
  exact k v3 H3 w3 ok3 ((st1.trans (st2.mono (Nat.le_succ n))).trans st3) q3
theorem sa_prim1 {f : List Cell → R Cell} {r : V → Hp → VK → Prop} (hs : CallS X (r1L r) f) (ha : SA X a ma) (hp : ∀ t, PE X a t → PE X e (fun σ H Q => t σ H fun x H1 => r x H1 Q)) : SA X e (mPrim f [ma]) := by
  obtain ⟨t, p, h⟩ := ha.ex
  refine ⟨_, hp t p, fun n σ H w ρ s ρ' Q ok hm k => ?_⟩
  obtain ⟨ss, cs, c, e1, e2, e3, rfl⟩ := mPrim_ok hm
  obtain ⟨⟨s1, ρ1⟩, f1, e1⟩ := R.of_bind e1
  cases e1
  refine h n σ H w ρ s1 ρ' _ ok f1 fun v H1 w1 ok1 st1 q1 => ?_
  refine hs n H1 w1 σ ρ' cs [v] c Q ok1 (SrcsAt.cells (n := n) (ss := [s1]) (vs := [v]) ok1 ⟨q1, trivial⟩ e2) e3 fun v3 H3 w3 ok3 st3 q3 => ?_
  exact k v3 H3 w3 ok3 (st1.trans st3) q3
theorem sa_bin {op : Operator} {f : List Cell → R Cell} {r : R2} (ho : OpR X (binaryOp op) r) (hs : CallS X (r2L r) f) (ha : SA X a ma) (hb : SA X b mb) : SA X (.BinOp a op b pos) (mPrim f [ma, mb]) :=
  sa_prim2 hs ha hb fun _ _ p q => pe_op ho p q
theorem sa_cmp {op : CmpOp} {f : List Cell → R Cell} {r : R2} (ho : OpR X (compareOp op) r) (hs : CallS X (r2L r) f) (hm : behindInMarks op b = false) (ha : SA X a ma) (hb : SA X b mb) : SA X (.Compare a [op] [b] pos) (mPrim f [ma, mb]) :=
  sa_prim2 hs ha hb fun _ _ p q => pe_cmpR ho p q hm
theorem sa_un {op : UnaryOp} {f : List Cell → R Cell} {r : V → Hp → VK → Prop} (ho : UnR X (unaryOp op) r) (hs : CallS X (r1L r) f) (ha : SA X a ma) : SA X (.UnaryOp op a pos) (mPrim f [ma]) :=
  sa_prim1 hs ha fun _ p => pe_un ho p
end

/-! ### rules for the operations -/
/-- both rules -/
def orL (r r' : List V → Hp → VK → Prop) : List V → Hp → VK → Prop := fun vs H Q => r vs H Q ∨ r' vs H Q
def orF (f g : List Cell → R Cell) : List Cell → R Cell := fun cs => match f cs with
  | .ok c => .ok c
  | _ => g cs
section
variable {X : Cx}
theorem CallS.or {r r' : List V → Hp → VK → Prop} {f g : List Cell → R Cell} (h : CallS X r f) (h' : CallS X r' g) : CallS X (fun vs H Q => r vs H Q ∨ r' vs H Q) (orF f g) := by
  intro n H w σ ρ cs vs c Q ok ow e k
  unfold orF at e
  cases e1 : f cs with
  | ok c' =>
    rw [e1] at e
    cases e
    exact .inl (h n H w σ ρ cs vs _ Q ok ow e1 k)
  | exc _ _ => rw [e1] at e; exact .inr (h' n H w σ ρ cs vs c Q ok ow e k)
  | bad => rw [e1] at e; exact .inr (h' n H w σ ρ cs vs c Q ok ow e k)
theorem CallS.of {r r' : List V → Hp → VK → Prop} {f : List Cell → R Cell} (h : CallS X r f) (i : ∀ vs H Q, r vs H Q → r' vs H Q) : CallS X r' f := by
  intro n H w σ ρ cs vs c Q ok ow e k
  exact i _ _ _ (h n H w σ ρ cs vs c Q ok ow e k)
theorem CallS.or2 {r r' : R2} {f g : List Cell → R Cell} (h : CallS X (r2L r) f) (h' : CallS X (r2L r') g) : CallS X (r2L fun x y H Q => r x y H Q ∨ r' x y H Q) (orF f g) :=
  (h.or h').of fun vs H Q q => by
    match vs, q with
    | [x, y], q => exact q
    | [], q => exact q.elim id id
    | [_], q => exact q.elim id id
    | _ :: _ :: _ :: _, q => exact q.elim id id
/-- the value at a cell whose datum is a scalar -/
theorem ow_int {K : PySem.W.Frag} {H : Hp} {w : OM} {o : Own} {k : Nat} {i : Int} {v : V} (h : Ow K H w o k (.int i) v) : v = .int i := by
  cases h with
  | fz h => cases h; rfl
theorem ow_bl {K : PySem.W.Frag} {H : Hp} {w : OM} {o : Own} {k : Nat} {i : Bool} {v : V} (h : Ow K H w o k (.bl i) v) : v = .bl i := by
  cases h with
  | fz h => cases h; rfl
theorem ow_str {K : PySem.W.Frag} {H : Hp} {w : OM} {o : Own} {k : Nat} {i : Str} {v : V} (h : Ow K H w o k (.str i) v) : v = .str i := by
  cases h with
  | fz h => cases h; rfl
theorem ow_non {K : PySem.W.Frag} {H : Hp} {w : OM} {o : Own} {k : Nat} {v : V} (h : Ow K H w o k .non v) : v = .non := by
  cases h with
  | fz h => cases h; rfl
theorem ow_tup {K : PySem.W.Frag} {H : Hp} {w : OM} {o : Own} {k : Nat} {ds : List D} {v : V} (h : Ow K H w o k (.tup ds) v) : ∃ a vs, v = .ref a ∧ TupAt K H w a vs ∧ FzL K H w ds vs := by
  cases h with
  | fz h => cases h with
    | tup h t => exact ⟨_, _, rfl, h, t⟩

/-- a read of a datum, whoever owns it -/
theorem Ow1L.sqs {K : PySem.W.Frag} {H : Hp} {w : OM} {o : Own} : ∀ {ds : List D} {vs : List V}, Ow1L K H w o ds vs → ds.length = vs.length
  | _, _, .nil => rfl
  | _, _, .cons _ _ _ r => by rw [List.length_cons, List.length_cons, r.sqs]
theorem ow_lst {K : PySem.W.Frag} {H : Hp} {w : OM} {o : Own} {k : Nat} {ds : List D} {v : V} (h : Ow K H w o k (.lst ds) v) : ∃ a vs, v = .ref a ∧ H a = some (.lst vs) ∧ ds.length = vs.length ∧ (k ≤ 1 → FzL K H w ds vs) := by
  cases h with
  | fz h => cases h with
    | lst h n t => exact ⟨_, _, rfl, h, t.length, fun _ => t⟩
  | lst h n t => exact ⟨_, _, rfl, h, t.length, fun _ => t⟩
  | lst2 h n t nd => exact ⟨_, _, rfl, h, t.sqs, fun z => absurd z (by decide)⟩
theorem ow_scr {K : PySem.W.Frag} {H : Hp} {w : OM} {o : Own} {k : Nat} {ds : List D} {v : V} (h : Ow K H w o k (.scr ds) v) : ∃ a vs, v = .ref a ∧ SqL K H a vs ∧ FzL K H w ds vs := by
  cases h with
  | fz h => cases h with
    | scr h t => exact ⟨_, _, rfl, h.sq, t⟩

def fI2 (g : Int → Int → R D) : List Cell → R Cell
  | [⟨.int i, _⟩, ⟨.int j, _⟩] => do
    let d ← g i j
    R.ok (Cell.fz d)
  | _ => .bad
def isSc : D → V → Bool
  | .int i, .int j => decide (i = j)
  | .bl i, .bl j => decide (i = j)
  | .str i, .str j => decide (i = j)
  | .non, .non => true
  | _, _ => false
theorem isSc.fz {d : D} {v : V} (h : isSc d v = true) {K : PySem.W.Frag} {H : Hp} {w : OM} : Fz K H w d v := by
  unfold isSc at h
  split at h
  · cases of_decide_eq_true h; exact .int _
  · cases of_decide_eq_true h; exact .bl _
  · cases of_decide_eq_true h; exact .str _
  · exact .non
  · cases h
theorem s_I2 {C : Int → Int → Prop} {gv : Int → Int → V} {g : Int → Int → R D} (h : ∀ i j d, g i j = .ok d → C i j ∧ isSc d (gv i j) = true) : CallS X (r2L (rI C gv)) (fI2 g) := by
  intro n H w σ ρ cs vs c Q ok ow e k
  unfold fI2 at e
  split at e
  · obtain ⟨d, e1, e⟩ := R.of_bind e
    cases e
    cases ow with
    | cons n1 h1 t =>
      cases t with
      | cons n2 h2 t =>
        cases t
        cases ow_int h1
        cases ow_int h2
        obtain ⟨hc, hd⟩ := h _ _ _ e1
        exact ⟨_, _, rfl, rfl, hc, k _ H w ok Step.refl (.fz (isSc.fz hd))⟩
  · cases e
theorem s_I20 {gv : Int → Int → V} {g : Int → Int → D} (h : ∀ i j, isSc (g i j) (gv i j) = true) : CallS X (r2L (rI0 gv)) (fI2 fun i j => .ok (g i j)) :=
  (s_I2 (C := fun _ _ => True) (gv := gv) (g := fun i j => .ok (g i j)) fun i j d e => by cases e; exact ⟨trivial, h i j⟩).of fun vs H Q q => by
    match vs, q with
    | [x, y], ⟨i, j, e1, e2, _, q⟩ => exact ⟨i, j, e1, e2, q⟩
end
end Z

/-! Z: the operations. -/
namespace Z
open PySem PySem.Spec PyProof.Rows L2

/-! ### data as the library tells it -/
mutual
def D.py : D → PyData
  | .non => .none
  | .bl b => .bool b
  | .int i => .int i
  | .str x => .str x
  | .tup l => .tuple (D.pyL l)
  | .lst l => .list (D.pyL l)
  | .scr l => .list (D.pyL l)
  | .dct _ _ => .dict []
def D.pyL : List D → List PyData
  | [] => []
  | d :: r => d.py :: D.pyL r
end
/-- may be compared: no dict within, at most n deep -/
def D.okd : Nat → D → Bool
  | _, .non => true
  | _, .bl _ => true
  | _, .int _ => true
  | _, .str x => strOk x
  | 0, _ => false
  | n + 1, .tup l => l.all (D.okd n)
  | n + 1, .lst l => l.all (D.okd n)
  | n + 1, .scr l => l.all (D.okd n)
  | _ + 1, .dct _ _ => false
where strOk (x : Str) : Bool := x.cps.all (· < 0x110000)
def D.eqv (d e : D) : Bool := PyData.eqv d.py e.py
theorem canLayAll0_of : ∀ {l : List D}, (∀ d ∈ l, d.py.canLay0 = true) → PyData.canLayAll0 (D.pyL l) = true
  | [], _ => by simp [D.pyL, PyData.canLayAll0]
  | d :: r, h => by
    simp only [D.pyL, PyData.canLayAll0, Bool.and_eq_true]
    exact ⟨h d (by simp), canLayAll0_of fun e he => h e (by simp [he])⟩
theorem depthAll_of {n : Nat} : ∀ {l : List D}, (∀ d ∈ l, d.py.depth ≤ n) → PyData.depthAll (D.pyL l) ≤ n
  | [], _ => by simp [D.pyL, PyData.depthAll]
  | d :: r, h => by
    simp only [D.pyL, PyData.depthAll]
    have h1 := h d (by simp)
    have h2 := depthAll_of (n := n) (l := r) fun e he => h e (by simp [he])
    omega
theorem D.okd_py : ∀ {n : Nat} {d : D}, d.okd n = true → d.py.canLay0 = true ∧ d.py.depth ≤ n
  | n, .non, _ => by cases n <;> simp [D.py, PyData.canLay0, PyData.depth]
  | n, .bl _, _ => by cases n <;> simp [D.py, PyData.canLay0, PyData.depth]
  | n, .int _, _ => by cases n <;> simp [D.py, PyData.canLay0, PyData.depth]
  | n, .str x, h => by
    have h' : D.okd.strOk x = true := by cases n <;> exact h
    cases n <;> simp [D.py, PyData.canLay0, PyData.depth] <;> exact h'
  | 0, .tup _, h => by simp [D.okd] at h
  | 0, .lst _, h => by simp [D.okd] at h
  | 0, .scr _, h => by simp [D.okd] at h
  | 0, .dct _ _, h => by simp [D.okd] at h
  | n + 1, .dct _ _, h => by simp [D.okd] at h
  | n + 1, .tup l, h => by
    have h' : ∀ d ∈ l, d.okd n = true := by simpa [D.okd] using h
    have a := canLayAll0_of (l := l) fun d hd => (D.okd_py (h' d hd)).1
    have b := depthAll_of (n := n) (l := l) fun d hd => (D.okd_py (h' d hd)).2
    simp only [D.py, PyData.canLay0, PyData.depth]
    exact ⟨a, by omega⟩
  | n + 1, .lst l, h => by
    have h' : ∀ d ∈ l, d.okd n = true := by simpa [D.okd] using h
    have a := canLayAll0_of (l := l) fun d hd => (D.okd_py (h' d hd)).1
    have b := depthAll_of (n := n) (l := l) fun d hd => (D.okd_py (h' d hd)).2
    simp only [D.py, PyData.canLay0, PyData.depth]
    exact ⟨a, by omega⟩
  | n + 1, .scr l, h => by
    have h' : ∀ d ∈ l, d.okd n = true := by simpa [D.okd] using h
    have a := canLayAll0_of (l := l) fun d hd => (D.okd_py (h' d hd)).1
    have b := depthAll_of (n := n) (l := l) fun d hd => (D.okd_py (h' d hd)).2
    simp only [D.py, PyData.canLay0, PyData.depth]
    exact ⟨a, by omega⟩
theorem D.okd_shaped {d : D} (h : d.okd 60 = true) : SeqAt.shaped d.py = true := by
  obtain ⟨a, b⟩ := D.okd_py h
  unfold SeqAt.shaped
  rw [Bool.and_eq_true]
  exact ⟨a, decide_eq_true (by omega)⟩
section
variable {K : PySem.W.Frag} {H : Hp} {w : OM} {o : Own}
mutual
theorem Fz.dp : ∀ {n : Nat} {d : D} {v : V}, Fz K H w d v → d.okd n = true → Dp K H v d.py
  | _, _, _, .non, _ => .non
  | _, _, _, .bl b, _ => .bl b
  | _, _, _, .int i, _ => .int i
  | _, _, _, .str x, _ => .str x
  | 0, _, _, .tup h t, e => by simp [D.okd] at e
  | 0, _, _, .lst h n t, e => by simp [D.okd] at e
  | 0, _, _, .scr h t, e => by simp [D.okd] at e
  | 0, _, _, .dct h n e t, q => by simp [D.okd] at q
  | m + 1, _, _, .tup h t, e => .tup h.sq (FzL.dp t (by simpa [D.okd] using e))
  | m + 1, _, _, .lst h n t, e => .lst (.inl (.inl h)) (FzL.dp t (by simpa [D.okd] using e))
  | m + 1, _, _, .scr h t, e => .lst h.sq (FzL.dp t (by simpa [D.okd] using e))
  | m + 1, _, _, .dct h n e t, q => by simp [D.okd] at q
theorem FzL.dp : ∀ {n : Nat} {ds : List D} {vs : List V}, FzL K H w ds vs → (∀ d ∈ ds, d.okd n = true) → DpAll K H vs (D.pyL ds)
  | _, _, _, .nil, _ => .nil
  | n, _, _, .cons h t, e => .cons (Fz.dp h (e _ (by simp))) (FzL.dp t fun d hd => e d (by simp [hd]))
end
theorem Ow1L.dp : ∀ {n : Nat} {ds : List D} {vs : List V}, Ow1L K H w o ds vs → (∀ d ∈ ds, d.okd n = true) → DpAll K H vs (D.pyL ds)
  | _, _, _, .nil, _ => .nil
  | 0, _, _, .cons h m t r, e => by have := e _ (List.mem_cons_self ..); simp [D.okd] at this
  | n + 1, _, _, .cons h m t r, e => .cons (.lst (.inl (.inl h)) (FzL.dp t (by have := e _ (List.mem_cons_self ..); simpa [D.okd] using this))) (Ow1L.dp r fun d hd => e d (by simp [hd]))
theorem Ow.dp {n k : Nat} {d : D} {v : V} (h : Ow K H w o k d v) (e : d.okd n = true) : Dp K H v d.py := by
  cases h with
  | fz h => exact h.dp e
  | lst h m t =>
    cases n with
    | zero => simp [D.okd] at e
    | succ n => exact .lst (.inl (.inl h)) (t.dp (n := n) (by simpa [D.okd] using e))
  | dct h m q t => cases n <;> simp [D.okd] at e
  | lst2 h m t nd =>
    cases n with
    | zero => simp [D.okd] at e
    | succ n => exact .lst (.inl (.inl h)) (t.dp (n := n) (by simpa [D.okd] using e))
end

theorem OwA.one {K : PySem.W.Frag} {H : Hp} {w : OM} {c : Cell} {vs : List V} (h : OwA K H w [c] vs) : ∃ v o, vs = [v] ∧ Ow K H w o c.k c.d v := by
  cases h with
  | cons n h t => cases t; exact ⟨_, _, rfl, h⟩
theorem OwA.two {K : PySem.W.Frag} {H : Hp} {w : OM} {c e : Cell} {vs : List V} (h : OwA K H w [c, e] vs) : ∃ v u o q, vs = [v, u] ∧ Ow K H w o c.k c.d v ∧ Ow K H w q e.k e.d u := by
  cases h with
  | cons n h t => cases t with
    | cons n2 h2 t => cases t; exact ⟨_, _, _, _, rfl, h, h2⟩

section
variable {X : Cx}
/-- one scalar out of any cells: the rule's wants are shown, the value is told -/
theorem s_scalar {r : List V → Hp → VK → Prop} {f : List Cell → R Cell}
    (h : ∀ (K : PySem.W.Frag) (H : Hp) (w : OM) (cs : List Cell) (vs : List V) (c : Cell) (Q : VK), K = X.K → OwA K H w cs vs → f cs = .ok c → ∃ d v, c = Cell.fz d ∧ isSc d v = true ∧ (Q v H → r vs H Q)) : CallS X r f := by
  intro n H w σ ρ cs vs c Q ok ow e k
  obtain ⟨d, v, rfl, hs, q⟩ := h X.K H w cs vs c Q rfl ow e
  exact q (k v H w ok Step.refl (.fz (isSc.fz hs)))

/-! #### arithmetic -/
def cmul (i j : Int) : Bool := decide (-(2 ^ 64) < i ∧ i < 2 ^ 64) || decide (-(2 ^ 64) < j ∧ j < 2 ^ 64)
def fSub : List Cell → R Cell := fI2 fun i j => .ok (.int (i - j))
theorem s_sub : CallS X (r2L (rI0 fun i j => .int (i - j))) fSub := s_I20 fun i j => by simp [isSc]
def fDiv : List Cell → R Cell := fI2 fun i j => if 0 < j ∧ j < 1073741824 then .ok (.int (i / j)) else .bad
theorem s_div : CallS X (r2L (rI CDiv fun i j => .int (i / j))) fDiv := s_I2 fun i j d e => by
  split at e
  · cases e; exact ⟨by assumption, by simp [isSc]⟩
  · cases e
def fMod : List Cell → R Cell := fI2 fun i j => if 0 < j then .ok (.int (i % j)) else .bad
theorem s_mod : CallS X (r2L (rI (fun _ j => 0 < j) fun i j => .int (i % j))) fMod := s_I2 fun i j d e => by
  split at e
  · cases e; exact ⟨by assumption, by simp [isSc]⟩
  · cases e
def cpow (i j : Int) : Bool := decide (0 ≤ j) && decide (j ≤ 1000000) && decide (i.natAbs < 2 ^ 64)
theorem cpow_ok {i j : Int} (h : cpow i j = true) : CPow i j := by
  unfold cpow at h
  simp only [Bool.and_eq_true, decide_eq_true_eq] at h
  exact ⟨h.1.1, h.1.2, h.2⟩
def fPow : List Cell → R Cell := fI2 fun i j => if cpow i j then .ok (.int (i ^ j.toNat)) else .bad
theorem s_pow : CallS X (r2L (rI CPow fun i j => .int (i ^ j.toNat))) fPow := s_I2 fun i j d e => by
  split at e
  · cases e; exact ⟨cpow_ok (by assumption), by simp [isSc]⟩
  · cases e
def fShl : List Cell → R Cell := fI2 fun i j => if cpow i j then .ok (.int (i * 2 ^ j.toNat)) else .bad
theorem s_shl : CallS X (r2L (rI CPow fun i j => .int (i * 2 ^ j.toNat))) fShl := s_I2 fun i j d e => by
  split at e
  · cases e; exact ⟨cpow_ok (by assumption), by simp [isSc]⟩
  · cases e
def fShr : List Cell → R Cell := fI2 fun i j => if 0 ≤ j then .ok (.int (i / 2 ^ j.toNat)) else .bad
theorem s_shr : CallS X (r2L (rI (fun _ j => 0 ≤ j) fun i j => .int (i / 2 ^ j.toNat))) fShr := s_I2 fun i j d e => by
  split at e
  · cases e; exact ⟨by assumption, by simp [isSc]⟩
  · cases e
def fBand : List Cell → R Cell := fI2 fun i j => .ok (.int (Builtin.bitAnd i j))
theorem s_band : CallS X (r2L (rI0 fun i j => .int (Builtin.bitAnd i j))) fBand := s_I20 fun i j => by simp [isSc]
def fBor : List Cell → R Cell := fI2 fun i j => .ok (.int (Builtin.bitOr i j))
theorem s_bor : CallS X (r2L (rI0 fun i j => .int (Builtin.bitOr i j))) fBor := s_I20 fun i j => by simp [isSc]
/-- + of ints, texts, tuples, lists -/
def fAdd : List Cell → R Cell
  | [⟨.int i, _⟩, ⟨.int j, _⟩] => .ok (Cell.fz (.int (i + j)))
  | [⟨.str x, _⟩, ⟨.str y, _⟩] => if x.length + y.length ≤ 16777216 then .ok (Cell.fz (.str (x ++ y))) else .bad
  | [⟨.tup l, _⟩, ⟨.tup m, _⟩] => if l.length + m.length ≤ 16777216 then .ok (Cell.fz (.tup (l ++ m))) else .bad
  | [⟨.lst l, k⟩, ⟨.lst m, j⟩] => if k ≤ 1 ∧ j ≤ 1 ∧ l.length + m.length ≤ 16777216 then .ok ⟨.lst (l ++ m), 1⟩ else .bad
  | _ => .bad
def rAddAll (K : PySem.W.Frag) : R2 := fun x y H Q => (rI0 (fun i j => .int (i + j)) x y H Q) ∨ (∃ i j, x = .str i ∧ y = .str j ∧ i.length + j.length ≤ sizeLine ∧ Q (.str (i ++ j)) H) ∨ rCatF K x y H Q ∨ rCat x y H Q
theorem op_addAll : OpR X (binaryOp .Add) (rAddAll X.K) := op_add.or (op_add_str.or (op_catF.or op_cat))
theorem s_add : CallS X (r2L (rAddAll X.K)) fAdd := by
  intro n H w σ ρ cs vs c Q ok ow e k
  unfold fAdd at e
  split at e
  · cases e
    obtain ⟨v, u, o, q, rfl, h1, h2⟩ := ow.two
    cases ow_int h1
    cases ow_int h2
    exact .inl ⟨_, _, rfl, rfl, k _ H w ok Step.refl (.fz (.int _))⟩
  · split at e
    · cases e
      obtain ⟨v, u, o, q, rfl, h1, h2⟩ := ow.two
      cases ow_str h1
      cases ow_str h2
      exact .inr (.inl ⟨_, _, rfl, rfl, by rw [sizeLine_eq]; assumption, k _ H w ok Step.refl (.fz (.str _))⟩)
    · cases e
  · split at e
    · cases e
      obtain ⟨v, u, o, q, rfl, h1, h2⟩ := ow.two
      obtain ⟨a, xs, rfl, ta, fa⟩ := ow_tup h1
      obtain ⟨b, ys, rfl, tb, fb⟩ := ow_tup h2
      have la := fa.length
      have lb := fb.length
      refine .inr (.inr (.inl ⟨a, b, xs, ys, rfl, rfl, ta.sq, tb.sq, by rw [sizeLine_eq, ← la, ← lb]; assumption, fun e0 => ?_, fun _ e0 => ?_, fun n1 n2 p ob hp hd => ?_⟩))
      · subst e0
        cases fa
        exact k _ H w ok Step.refl (.fz (.tup tb fb))
      · subst e0
        cases fb
        refine k _ H w ok Step.refl (.fz ?_)
        show Fz X.K H w (.tup (_ ++ [])) _
        rw [List.append_nil]
        exact .tup ta fa
      · refine k _ _ (w.put p .no) (ok.new hp .no) (Step.new hp) (.fz (.tup (.inl ⟨⟨ob, upd_same, hd⟩, OM.put_same⟩) ?_))
        exact ((fa.append fb).step (Kp.new hp .no))
    · cases e
  · split at e
    · rename_i hc
      cases e
      obtain ⟨v, u, o, q, rfl, h1, h2⟩ := ow.two
      obtain ⟨a, xs, rfl, ta, la, fa⟩ := ow_lst h1
      obtain ⟨b, ys, rfl, tb, lb, fb⟩ := ow_lst h2
      refine .inr (.inr (.inr ⟨a, b, xs, ys, rfl, rfl, ta, tb, by rw [sizeLine_eq, ← la, ← lb]; exact hc.2.2, fun p hp => ?_⟩))
      refine k _ _ (w.put p (.tm n)) (ok.new hp _) (Step.new hp) (.lst upd_same OM.put_same ?_)
      exact (((fa hc.1).append (fb hc.2.1)).step (Kp.new hp .no))
    · cases e
  · cases e
/-- * of ints, of a list and an int -/
def fMul : List Cell → R Cell
  | [⟨.int i, _⟩, ⟨.int j, _⟩] => if cmul i j then .ok (Cell.fz (.int (i * j))) else .bad
  | [⟨.lst l, k⟩, ⟨.int j, _⟩] => if k ≤ 1 ∧ -(2 ^ 63) ≤ j ∧ j < 2 ^ 63 ∧ l.length * j.toNat ≤ 16777216 then .ok ⟨.lst (List.replicate j.toNat l).flatten, 1⟩ else .bad
  | _ => .bad
theorem cmul_ok {i j : Int} (h : cmul i j = true) : CMul i j := by
  unfold cmul at h
  simpa [CMul] using h
def rMulAll : R2 := fun x y H Q => (rI CMul (fun i j => .int (i * j)) x y H Q) ∨ rRep x y H Q
theorem op_mulAll : OpR X (binaryOp .Mult) rMulAll := op_mul.or op_rep
theorem s_mul : CallS X (r2L rMulAll) fMul := by
  intro n H w σ ρ cs vs c Q ok ow e k
  unfold fMul at e
  split at e
  · split at e
    · cases e
      obtain ⟨v, u, o, q, rfl, h1, h2⟩ := ow.two
      cases ow_int h1
      cases ow_int h2
      exact .inl ⟨_, _, rfl, rfl, cmul_ok (by assumption), k _ H w ok Step.refl (.fz (.int _))⟩
    · cases e
  · split at e
    · rename_i hc
      cases e
      obtain ⟨v, u, o, q, rfl, h1, h2⟩ := ow.two
      obtain ⟨a, xs, rfl, ta, la, fa⟩ := ow_lst h1
      cases ow_int h2
      refine .inr ⟨a, _, xs, rfl, rfl, ta, hc.2.1, hc.2.2.1, by rw [sizeLine_eq, ← la]; exact hc.2.2.2, fun p hp => ?_⟩
      exact k _ _ (w.put p (.tm n)) (ok.new hp _) (Step.new hp) (.lst upd_same OM.put_same (((fa hc.1).rep _).step (Kp.new hp .no)))
    · cases e
  · cases e
def fNeg : List Cell → R Cell
  | [⟨.int i, _⟩] => .ok (Cell.fz (.int (-i)))
  | _ => .bad
theorem s_neg : CallS X (r1L (rU fun i => .int (-i))) fNeg := s_scalar fun K H w cs vs c Q _ ow e => by
  unfold fNeg at e
  split at e
  · cases e
    obtain ⟨v, o, rfl, h1⟩ := ow.one
    cases ow_int h1
    exact ⟨_, .int (-_), rfl, by simp [isSc], fun q => ⟨_, rfl, q⟩⟩
  · cases e

/-! #### comparisons -/
def fCmp (p : Int → Int → Bool) : List Cell → R Cell := fI2 fun i j => .ok (.bl (p i j))
theorem s_cmp {p : Int → Int → Bool} : CallS X (r2L (rI0 fun i j => .bl (p i j))) (fCmp p) := s_I20 fun i j => by simp [isSc]
abbrev fLt := fCmp fun i j => decide (i < j)
abbrev fLe := fCmp fun i j => decide (i ≤ j)
abbrev fGt := fCmp fun i j => decide (j < i)
abbrev fGe := fCmp fun i j => decide (j ≤ i)
def fEq : List Cell → R Cell
  | [c, e] => if c.d.okd 60 && e.d.okd 60 then .ok (Cell.fz (.bl (c.d.eqv e.d))) else .bad
  | _ => .bad
def fNe : List Cell → R Cell
  | [c, e] => if c.d.okd 60 && e.d.okd 60 then .ok (Cell.fz (.bl (!c.d.eqv e.d))) else .bad
  | _ => .bad
theorem s_eq : CallS X (r2L (rEqD X.K)) fEq := s_scalar fun K H w cs vs c Q hK ow e => by
  subst hK
  unfold fEq at e
  split at e
  · split at e
    · rename_i c1 c2 hc
      cases e
      rw [Bool.and_eq_true] at hc
      obtain ⟨v, u, o, q, rfl, h1, h2⟩ := ow.two
      exact ⟨_, .bl (c1.d.eqv c2.d), rfl, by simp [isSc], fun q => ⟨_, _, h1.dp hc.1, h2.dp hc.2, D.okd_shaped hc.1, D.okd_shaped hc.2, q⟩⟩
    · cases e
  · cases e
theorem s_ne : CallS X (r2L (rNeD X.K)) fNe := s_scalar fun K H w cs vs c Q hK ow e => by
  subst hK
  unfold fNe at e
  split at e
  · split at e
    · rename_i c1 c2 hc
      cases e
      rw [Bool.and_eq_true] at hc
      obtain ⟨v, u, o, q, rfl, h1, h2⟩ := ow.two
      exact ⟨_, .bl (!c1.d.eqv c2.d), rfl, by simp [isSc], fun q => ⟨_, _, h1.dp hc.1, h2.dp hc.2, D.okd_shaped hc.1, D.okd_shaped hc.2, q⟩⟩
    · cases e
  · cases e
def isNon : D → Bool
  | .non => true
  | _ => false
theorem isNon_ow {K : PySem.W.Frag} {H : Hp} {w : OM} {o : Own} {k : Nat} {d : D} {v : V} (h : Ow K H w o k d v) : decide (v = .non) = isNon d := by
  cases h with
  | fz h => cases h <;> simp [isNon]
  | _ => simp [isNon]
def fIsN : List Cell → R Cell
  | [c, ⟨.non, _⟩] => .ok (Cell.fz (.bl (isNon c.d)))
  | _ => .bad
def fNotN : List Cell → R Cell
  | [c, ⟨.non, _⟩] => .ok (Cell.fz (.bl (!isNon c.d)))
  | _ => .bad
theorem s_isN : CallS X (r2L fun x y H Q => y = .non ∧ Q (.bl (decide (x = .non))) H) fIsN := s_scalar fun K H w cs vs c Q hK ow e => by
  unfold fIsN at e
  split at e
  · rename_i c1 _
    cases e
    obtain ⟨v, u, o, q, rfl, h1, h2⟩ := ow.two
    cases ow_non h2
    exact ⟨_, .bl (isNon c1.d), rfl, by simp [isSc], fun q => ⟨rfl, by rw [isNon_ow h1]; exact q⟩⟩
  · cases e
theorem s_notN : CallS X (r2L fun x y H Q => y = .non ∧ Q (.bl (!decide (x = .non))) H) fNotN := s_scalar fun K H w cs vs c Q hK ow e => by
  unfold fNotN at e
  split at e
  · rename_i c1 _
    cases e
    obtain ⟨v, u, o, q, rfl, h1, h2⟩ := ow.two
    cases ow_non h2
    exact ⟨_, .bl (!isNon c1.d), rfl, by simp [isSc], fun q => ⟨rfl, by rw [isNon_ow h1]; exact q⟩⟩
  · cases e
end
end Z

/-! Z: in, calls of built-ins, subscripts, displays. -/
namespace Z
open PySem PySem.Spec PyProof.Rows L2
theorem D.pyL_map : ∀ l : List D, D.pyL l = l.map D.py
  | [] => rfl
  | d :: r => by rw [D.pyL, D.pyL_map r, List.map_cons]
theorem any_py (d : D) (l : List D) : ((D.pyL l).any fun z => PyData.eqv z d.py) = l.any fun z => z.eqv d := by
  rw [D.pyL_map, List.any_map]
  rfl
section
variable {X : Cx}
def rInT (K : PySem.W.Frag) : R2 := fun x y H Q => ∃ d ds, Dp K H x d ∧ Dp K H y (.tuple ds) ∧ SeqAt.shaped d = true ∧ SeqAt.shaped (.tuple ds) = true ∧ Q (.bl (ds.any fun z => PyData.eqv z d)) H
def rNotInT (K : PySem.W.Frag) : R2 := fun x y H Q => ∃ d ds, Dp K H x d ∧ Dp K H y (.tuple ds) ∧ SeqAt.shaped d = true ∧ SeqAt.shaped (.tuple ds) = true ∧ Q (.bl (!ds.any fun z => PyData.eqv z d)) H
theorem op_inT (hu : X.A.units + 65 < cLine) : OpR X (compareOp .In) (rInT X.K) := by
  intro pins s σ H x y v u Q I rx ry h
  obtain ⟨d, ds, hd, he, sd, se, q⟩ := h
  obtain ⟨as, r1⟩ := Dp.reads I d x v hd rx
  obtain ⟨bs, r2⟩ := Dp.reads I (.tuple ds) y u he ry
  exact SeqAt.in_tuple_reads r2 r1 (SeqAt.canLay_of_shaped se) (SeqAt.canLay_of_shaped sd) (room_in_shaped sd hu) ⟨.bl _, H, I, rfl, q⟩
theorem op_notInT (hu : X.A.units + 65 < cLine) : OpR X (compareOp .NotIn) (rNotInT X.K) := by
  intro pins s σ H x y v u Q I rx ry h
  obtain ⟨d, ds, hd, he, sd, se, q⟩ := h
  obtain ⟨as, r1⟩ := Dp.reads I d x v hd rx
  obtain ⟨bs, r2⟩ := Dp.reads I (.tuple ds) y u he ry
  exact SeqAt.notIn_tuple_reads r2 r1 (SeqAt.canLay_of_shaped se) (SeqAt.canLay_of_shaped sd) (room_in_shaped sd hu) ⟨.bl _, H, I, rfl, q⟩
def sign? (x : Str) : Option Nat := match x.cps.toList with
  | [c] => some c
  | _ => none
theorem sign?_eq {x : Str} {c : Nat} (h : sign? x = some c) : x = ⟨#[c]⟩ := by
  obtain ⟨a⟩ := x
  unfold sign? at h
  have h' : (match a.toList with | [c] => some c | _ => none) = some c := h
  split at h'
  · rename_i e
    cases h'
    have : a = #[c] := by rw [← Array.toArray_toList (xs := a), e]
    rw [this]
  · cases h'
/-- x in y -/
def inB (x y : D) : R Bool := match y with
  | .tup l => if x.okd 60 && (D.tup l).okd 60 then .ok (l.any fun z => z.eqv x) else .bad
  | .lst l => if x.okd 60 && (D.lst l).okd 60 then .ok (l.any fun z => z.eqv x) else .bad
  | .str z => match x with
    | .str c => match sign? c with
      | some n => .ok (decide (n ∈ z.cps.toList))
      | none => .bad
    | _ => .bad
  | _ => .bad
def fIn (neg : Bool) : List Cell → R Cell
  | [c, e] => do
    let b ← inB c.d e.d
    R.ok (Cell.fz (.bl (neg ^^ b)))
  | _ => .bad
def rInAll (K : PySem.W.Frag) : R2 := fun x y H Q => rInT K x y H Q ∨ rInD K x y H Q ∨ ∃ (c : Nat) (z : Str), x = .str ⟨#[c]⟩ ∧ y = .str z ∧ Q (.bl (decide (c ∈ z.cps.toList))) H
def rNotInAll (K : PySem.W.Frag) : R2 := fun x y H Q => rNotInT K x y H Q ∨ rNotInD K x y H Q ∨ ∃ (c : Nat) (z : Str), x = .str ⟨#[c]⟩ ∧ y = .str z ∧ Q (.bl (!decide (c ∈ z.cps.toList))) H
theorem op_inAll (hu : X.A.units + 65 < cLine) : OpR X (compareOp .In) (rInAll X.K) := (op_inT hu).or ((op_inD hu).or op_in_sign)
theorem op_notInAll (hu : X.A.units + 65 < cLine) : OpR X (compareOp .NotIn) (rNotInAll X.K) := (op_notInT hu).or ((op_notInD hu).or op_notIn_sign)
theorem inB_ok {H : Hp} {w : OM} {c e : Cell} {x y : V} {o o' : Own} {b : Bool} (h1 : Ow X.K H w o c.k c.d x) (h2 : Ow X.K H w o' e.k e.d y) (h : inB c.d e.d = .ok b) :
    (∃ d ds, Dp X.K H x d ∧ Dp X.K H y (.tuple ds) ∧ SeqAt.shaped d = true ∧ SeqAt.shaped (.tuple ds) = true ∧ (ds.any fun z => PyData.eqv z d) = b) ∨
    (∃ d ds, Dp X.K H x d ∧ Dp X.K H y (.list ds) ∧ SeqAt.shaped d = true ∧ SeqAt.shaped (.list ds) = true ∧ (ds.any fun z => PyData.eqv z d) = b) ∨
    ∃ (c : Nat) (z : Str), x = .str ⟨#[c]⟩ ∧ y = .str z ∧ decide (c ∈ z.cps.toList) = b := by
  obtain ⟨d1, k1⟩ := c
  obtain ⟨d2, k2⟩ := e
  simp only at h h1 h2
  unfold inB at h
  split at h
  · split at h
    · rename_i l hc
      cases h
      rw [Bool.and_eq_true] at hc
      exact .inl ⟨_, _, h1.dp hc.1, by have := h2.dp hc.2; rw [D.py] at this; exact this, D.okd_shaped hc.1, by have := D.okd_shaped hc.2; rw [D.py] at this; exact this, any_py _ _⟩
    · cases h
  · split at h
    · rename_i l hc
      cases h
      rw [Bool.and_eq_true] at hc
      exact .inr (.inl ⟨_, _, h1.dp hc.1, by have := h2.dp hc.2; rw [D.py] at this; exact this, D.okd_shaped hc.1, by have := D.okd_shaped hc.2; rw [D.py] at this; exact this, any_py _ _⟩)
    · cases h
  · split at h
    · split at h
      · rename_i hs
        cases h
        cases ow_str h1
        cases ow_str h2
        rw [sign?_eq hs]
        exact .inr (.inr ⟨_, _, rfl, rfl, rfl⟩)
      · cases h
    · cases h
  · cases h
theorem s_in : CallS X (r2L (rInAll X.K)) (fIn false) := s_scalar fun K H w cs vs c Q hK ow e => by
  subst hK
  unfold fIn at e
  split at e
  · obtain ⟨b, e1, e⟩ := R.of_bind e
    cases e
    obtain ⟨v, u, o, q, rfl, h1, h2⟩ := ow.two
    refine ⟨_, .bl b, rfl, by simp [isSc], fun q => ?_⟩
    rcases inB_ok h1 h2 e1 with ⟨d, ds, a1, a2, a3, a4, rfl⟩ | ⟨d, ds, a1, a2, a3, a4, rfl⟩ | ⟨c, z, rfl, rfl, rfl⟩
    · exact .inl ⟨d, ds, a1, a2, a3, a4, q⟩
    · exact .inr (.inl ⟨d, ds, a1, a2, a3, a4, q⟩)
    · exact .inr (.inr ⟨c, z, rfl, rfl, q⟩)
  · cases e
theorem s_notIn : CallS X (r2L (rNotInAll X.K)) (fIn true) := s_scalar fun K H w cs vs c Q hK ow e => by
  subst hK
  unfold fIn at e
  split at e
  · obtain ⟨b, e1, e⟩ := R.of_bind e
    cases e
    obtain ⟨v, u, o, q, rfl, h1, h2⟩ := ow.two
    refine ⟨_, .bl (!b), rfl, by simp [isSc], fun q => ?_⟩
    rcases inB_ok h1 h2 e1 with ⟨d, ds, a1, a2, a3, a4, rfl⟩ | ⟨d, ds, a1, a2, a3, a4, rfl⟩ | ⟨c, z, rfl, rfl, rfl⟩
    · exact .inl ⟨d, ds, a1, a2, a3, a4, q⟩
    · exact .inr (.inl ⟨d, ds, a1, a2, a3, a4, q⟩)
    · exact .inr (.inr ⟨c, z, rfl, rfl, q⟩)
  · cases e

/-! ### calls of built-ins -/
theorem sa_callB {id : String} {f : List Cell → R Cell} {r : List V → Hp → VK → Prop} {x : Str} {e : Expr} {es : List Expr} {ms : List AE} {p pos : Pos} (hc : CallR X (.builtin id) r) (hs : CallS X r f) (hm : X.mg x = none) (hv : bootBuiltins x = some (.builtin id)) (ha : SAs X (e :: es) ms)
    (hg : Gl X x := by rfl) (hn : x ≠ "__name__" := by decide) (hdb : (x == ("__debug__" : Str)) = false := by decide)
    (he : starEach (e :: es) X.env = (false, eval e X.env) :: starEach es X.env := by rfl) (hpl : (backTo pos (starEach es X.env)).any (·.1) = false := by rfl) : SA X (.Call (.Name x p) (e :: es) [] pos) (mPrim f ms) :=
  sa_prim hs ha fun _ q => pe_callB hc hg hm hv q hn hdb he hpl
theorem sa_callTy {T : String} {f : List Cell → R Cell} {r : List V → Hp → VK → Prop} {x : Str} {e : Expr} {es : List Expr} {ms : List AE} {p pos : Pos} (hc : CallR X (.type T) r) (hs : CallS X r f) (hm : X.mg x = none) (hv : bootBuiltins x = some (.type T)) (ha : SAs X (e :: es) ms)
    (hg : Gl X x := by rfl) (hn : x ≠ "__name__" := by decide) (hdb : (x == ("__debug__" : Str)) = false := by decide)
    (he : starEach (e :: es) X.env = (false, eval e X.env) :: starEach es X.env := by rfl) (hpl : (backTo pos (starEach es X.env)).any (·.1) = false := by rfl) : SA X (.Call (.Name x p) (e :: es) [] pos) (mPrim f ms) :=
  sa_prim hs ha fun _ q => pe_callTy hc hg hm hv q hn hdb he hpl

/-- len -/
def fLen : List Cell → R Cell
  | [⟨.tup l, _⟩] => .ok (Cell.fz (.int l.length))
  | [⟨.lst l, _⟩] => .ok (Cell.fz (.int l.length))
  | [⟨.scr l, _⟩] => .ok (Cell.fz (.int l.length))
  | [⟨.str x, _⟩] => if x.length ≤ 16777216 then .ok (Cell.fz (.int x.length)) else .bad
  | [⟨.dct ks _, _⟩] => .ok (Cell.fz (.int ks.length))
  | _ => .bad
def rLenD : List V → Hp → VK → Prop := fun xs H Q => ∃ d kvs, xs = [.ref d] ∧ Rd H d (.dK kvs) ∧ Q (.int kvs.length) H
theorem ow_dct {K : PySem.W.Frag} {H : Hp} {w : OM} {o : Own} {k : Nat} {ks : List Key} {ds : List D} {v : V} (h : Ow K H w o k (.dct ks ds) v) : ∃ a kvs, v = .ref a ∧ Rd H a (.dK kvs) ∧ kvs.map (·.1) = ks ∧ FzL K H w ds (kvs.map (·.2)) := by
  cases h with
  | fz h => cases h with
    | dct h n e t => exact ⟨_, _, rfl, h, e, t⟩
  | dct h n e t => exact ⟨_, _, rfl, .inl h, e, t⟩
theorem call_lenDR : CallR X (.builtin "len") rLenD := by
  intro pins s σ H xs us Q I r h
  obtain ⟨d, kvs, rfl, hd, q⟩ := h
  obtain ⟨u, rfl, rx⟩ := vals1 r
  obtain rfl : u = Value.ref d := rx
  exact d_len I hd fun t s' I' => ⟨.int kvs.length, H, I', ⟨t, rfl⟩, q⟩
def rLenAll (K : PySem.W.Frag) : List V → Hp → VK → Prop := fun xs H Q => (∃ x n, xs = [x] ∧ LenV K x H n ∧ Q (.int n) H) ∨ rLenD xs H Q
theorem call_lenAll : CallR X (.builtin "len") (rLenAll X.K) := by
  intro pins s σ H xs us Q I r h
  rcases h with h | h
  · exact call_len pins s σ H xs us Q I r h
  · exact call_lenDR pins s σ H xs us Q I r h
theorem s_len : CallS X (rLenAll X.K) fLen := s_scalar fun K H w cs vs c Q hK ow e => by
  subst hK
  unfold fLen at e
  split at e
  · rename_i l _
    cases e
    obtain ⟨v, o, rfl, h1⟩ := ow.one
    obtain ⟨a, xs, rfl, ta, fa⟩ := ow_tup h1
    exact ⟨_, .int l.length, rfl, by simp [isSc], fun q => .inl ⟨_, _, rfl, .inr ⟨_, ta.sq, fa.length⟩, q⟩⟩
  · rename_i l _
    cases e
    obtain ⟨v, o, rfl, h1⟩ := ow.one
    obtain ⟨a, xs, rfl, ta, la, fa⟩ := ow_lst h1
    exact ⟨_, .int l.length, rfl, by simp [isSc], fun q => .inl ⟨_, _, rfl, .inl ⟨_, .inl (.inl ta), la⟩, q⟩⟩
  · rename_i l _
    cases e
    obtain ⟨v, o, rfl, h1⟩ := ow.one
    obtain ⟨a, xs, rfl, ta, fa⟩ := ow_scr h1
    exact ⟨_, .int l.length, rfl, by simp [isSc], fun q => .inl ⟨_, _, rfl, .inl ⟨_, ta, fa.length⟩, q⟩⟩
  · split at e
    · rename_i x _ hx
      cases e
      obtain ⟨v, o, rfl, h1⟩ := ow.one
      cases ow_str h1
      exact ⟨_, .int x.length, rfl, by simp [isSc], fun q => .inl ⟨_, _, rfl, ⟨by rw [sizeLine_eq]; exact hx, rfl⟩, q⟩⟩
    · cases e
  · rename_i ks _ _
    cases e
    obtain ⟨v, o, rfl, h1⟩ := ow.one
    obtain ⟨a, kvs, rfl, ha, hk, fa⟩ := ow_dct h1
    have el : ks.length = kvs.length := by rw [← hk, List.length_map]
    exact ⟨_, .int ks.length, rfl, by simp [isSc], fun q => .inr ⟨_, _, rfl, ha, by rw [← el]; exact q⟩⟩
  · cases e
/-- tuple(x) -/
def fTuple : List Cell → R Cell
  | [⟨.tup l, _⟩] => .ok (Cell.fz (.tup l))
  | [⟨.lst l, k⟩] => if k ≤ 1 then .ok (Cell.fz (.tup l)) else .bad
  | _ => .bad
theorem s_tuple : CallS X (fun xs H Q => ∃ p ys, xs = [.ref p] ∧ ((SqL X.K H p ys ∧ ∀ l o, H l = none → o.dict = none → Q (.ref l) (upd H l (.frz o (.tup ys)))) ∨ (SqT X.K H p ys ∧ Q (.ref p) H))) fTuple := by
  intro n H w σ ρ cs vs c Q ok ow e k
  unfold fTuple at e
  split at e
  · cases e
    obtain ⟨v, o, rfl, h1⟩ := ow.one
    obtain ⟨a, xs, rfl, ta, fa⟩ := ow_tup h1
    exact ⟨_, _, rfl, .inr ⟨ta.sq, k _ H w ok Step.refl (.fz (.tup ta fa))⟩⟩
  · split at e
    · rename_i hc
      cases e
      obtain ⟨v, o, rfl, h1⟩ := ow.one
      obtain ⟨a, xs, rfl, ta, la, fa⟩ := ow_lst h1
      refine ⟨_, xs, rfl, .inl ⟨.inl (.inl ta), fun p ob hp hd => ?_⟩⟩
      exact k _ _ (w.put p .no) (ok.new hp .no) (Step.new hp) (.fz (.tup (.inl ⟨⟨ob, upd_same, hd⟩, OM.put_same⟩) ((fa hc).step (Kp.new hp .no))))
    · cases e
  · cases e
/-- list(x) -/
def fList : List Cell → R Cell
  | [⟨.tup l, _⟩] => .ok ⟨.lst l, 1⟩
  | [⟨.lst l, k⟩] => if k ≤ 1 then .ok ⟨.lst l, 1⟩ else .bad
  | [⟨.scr l, _⟩] => .ok ⟨.lst l, 1⟩
  | _ => .bad
theorem s_list : CallS X (fun xs H Q => ∃ p ys, xs = [.ref p] ∧ (SqL X.K H p ys ∨ SqT X.K H p ys) ∧ ∀ l, H l = none → Q (.ref l) (upd H l (.lst ys))) fList := by
  intro n H w σ ρ cs vs c Q ok ow e k
  unfold fList at e
  split at e
  · cases e
    obtain ⟨v, o, rfl, h1⟩ := ow.one
    obtain ⟨a, xs, rfl, ta, fa⟩ := ow_tup h1
    refine ⟨_, xs, rfl, .inr ta.sq, fun p hp => ?_⟩
    exact k _ _ (w.put p (.tm n)) (ok.new hp _) (Step.new hp) (.lst upd_same OM.put_same (fa.step (Kp.new hp .no)))
  · split at e
    · rename_i hc
      cases e
      obtain ⟨v, o, rfl, h1⟩ := ow.one
      obtain ⟨a, xs, rfl, ta, la, fa⟩ := ow_lst h1
      refine ⟨_, xs, rfl, .inl (.inl (.inl ta)), fun p hp => ?_⟩
      exact k _ _ (w.put p (.tm n)) (ok.new hp _) (Step.new hp) (.lst upd_same OM.put_same ((fa hc).step (Kp.new hp .no)))
    · cases e
  · cases e
    obtain ⟨v, o, rfl, h1⟩ := ow.one
    obtain ⟨a, xs, rfl, ta, fa⟩ := ow_scr h1
    refine ⟨_, xs, rfl, .inl ta, fun p hp => ?_⟩
    exact k _ _ (w.put p (.tm n)) (ok.new hp _) (Step.new hp) (.lst upd_same OM.put_same (fa.step (Kp.new hp .no)))
  · cases e
/-- int(x) of an int or a bool -/
def fInt : List Cell → R Cell
  | [⟨.int i, _⟩] => .ok (Cell.fz (.int i))
  | [⟨.bl b, _⟩] => .ok (Cell.fz (.int (if b then 1 else 0)))
  | _ => .bad
theorem s_int : CallS X (fun xs H Q => (∃ i, xs = [.int i] ∧ Q (.int i) H) ∨ ∃ k, xs = [.bl k] ∧ Q (.int (if k then 1 else 0)) H) fInt := s_scalar fun K H w cs vs c Q hK ow e => by
  unfold fInt at e
  split at e
  · rename_i i _
    cases e
    obtain ⟨v, o, rfl, h1⟩ := ow.one
    cases ow_int h1
    exact ⟨_, .int i, rfl, by simp [isSc], fun q => .inl ⟨_, rfl, q⟩⟩
  · rename_i b _
    cases e
    obtain ⟨v, o, rfl, h1⟩ := ow.one
    cases ow_bl h1
    exact ⟨_, .int (if b then 1 else 0), rfl, by simp [isSc], fun q => .inr ⟨_, rfl, q⟩⟩
  · cases e
def fAbs : List Cell → R Cell
  | [⟨.int i, _⟩] => .ok (Cell.fz (.int (if i < 0 then -i else i)))
  | _ => .bad
theorem s_abs : CallS X (fun xs H Q => ∃ i, xs = [.int i] ∧ Q (.int (if i < 0 then -i else i)) H) fAbs := s_scalar fun K H w cs vs c Q hK ow e => by
  unfold fAbs at e
  split at e
  · rename_i i _
    cases e
    obtain ⟨v, o, rfl, h1⟩ := ow.one
    cases ow_int h1
    exact ⟨_, .int (if i < 0 then -i else i), rfl, by simp [isSc], fun q => ⟨_, rfl, q⟩⟩
  · cases e
/-- str(n) -/
def fStr : List Cell → R Cell
  | [⟨.int i, _⟩] => if i.natAbs.log2 < 1920 then .ok (Cell.fz (.str (toString i))) else .bad
  | _ => .bad
theorem s_str : CallS X (fun xs H Q => ∃ i, xs = [.int i] ∧ i.natAbs.log2 < 1920 ∧ Q (.str (toString i)) H) fStr := s_scalar fun K H w cs vs c Q hK ow e => by
  unfold fStr at e
  split at e
  · split at e
    · rename_i i _ hi
      cases e
      obtain ⟨v, o, rfl, h1⟩ := ow.one
      cases ow_int h1
      exact ⟨_, .str (toString i), rfl, by simp [isSc], fun q => ⟨_, rfl, hi, q⟩⟩
    · cases e
  · cases e

/-! #### lists of ints, of bools -/
def asInts : List D → Option (List Int)
  | [] => some []
  | .int i :: r => match asInts r with
    | some is => some (i :: is)
    | none => none
  | _ :: _ => none
theorem asInts_map : ∀ ns : List Int, asInts (ns.map D.int) = some ns
  | [] => rfl
  | n :: ns => by rw [List.map_cons, asInts, asInts_map ns]
theorem asInts_eq : ∀ {l : List D} {ns : List Int}, asInts l = some ns → l = ns.map D.int
  | [], ns, h => by cases h; rfl
  | d :: r, ns, h => by
    cases d with
    | int i =>
      unfold asInts at h
      cases e : asInts r with
      | none => rw [e] at h; cases h
      | some is => rw [e] at h; cases h; rw [asInts_eq e]; rfl
    | _ => cases h
def asBls : List D → Option (List Bool)
  | [] => some []
  | .bl i :: r => match asBls r with
    | some is => some (i :: is)
    | none => none
  | _ :: _ => none
theorem asBls_map : ∀ ns : List Bool, asBls (ns.map D.bl) = some ns
  | [] => rfl
  | n :: ns => by rw [List.map_cons, asBls, asBls_map ns]
theorem asBls_eq : ∀ {l : List D} {ns : List Bool}, asBls l = some ns → l = ns.map D.bl
  | [], ns, h => by cases h; rfl
  | d :: r, ns, h => by
    cases d with
    | bl i =>
      unfold asBls at h
      cases e : asBls r with
      | none => rw [e] at h; cases h
      | some is => rw [e] at h; cases h; rw [asBls_eq e]; rfl
    | _ => cases h
theorem sq_ints {H : Hp} {w : OM} {c : Cell} {v : V} {o : Own} {l : List D} {ns : List Int} (hk : c.k ≤ 1) (hd : c.d = .lst l) (h : Ow X.K H w o c.k c.d v) (e : asInts l = some ns) : ∃ a, v = .ref a ∧ SqL X.K H a (ns.map V.int) := by
  rw [hd] at h
  obtain ⟨a, xs, rfl, ta, la, fa⟩ := ow_lst h
  have f := fa hk
  rw [asInts_eq e] at f
  rw [f.ints] at ta
  exact ⟨a, rfl, .inl (.inl ta)⟩
theorem sq_bls {H : Hp} {w : OM} {c : Cell} {v : V} {o : Own} {l : List D} {ns : List Bool} (hk : c.k ≤ 1) (hd : c.d = .lst l) (h : Ow X.K H w o c.k c.d v) (e : asBls l = some ns) : ∃ a, v = .ref a ∧ SqL X.K H a (ns.map V.bl) := by
  rw [hd] at h
  obtain ⟨a, xs, rfl, ta, la, fa⟩ := ow_lst h
  have f := fa hk
  rw [asBls_eq e] at f
  rw [f.bls] at ta
  exact ⟨a, rfl, .inl (.inl ta)⟩
/-- a rule over a list of ints -/
def onInts (g : List Int → R D) : List Cell → R Cell
  | [⟨.lst l, k⟩] => if k ≤ 1 then match asInts l with
      | some ns => do
        let d ← g ns
        R.ok (Cell.fz d)
      | none => .bad
    else .bad
  | _ => .bad
def onBls (g : List Bool → R D) : List Cell → R Cell
  | [⟨.lst l, k⟩] => if k ≤ 1 then match asBls l with
      | some ns => do
        let d ← g ns
        R.ok (Cell.fz d)
      | none => .bad
    else .bad
  | _ => .bad
theorem s_onInts {r : List V → Hp → VK → Prop} {g : List Int → R D} (h : ∀ H a ns d Q, SqL X.K H a (ns.map V.int) → g ns = .ok d → ∃ v, isSc d v = true ∧ (Q v H → r [.ref a] H Q)) : CallS X r (onInts g) := s_scalar fun K H w cs vs c Q hK ow e => by
  subst hK
  unfold onInts at e
  split at e
  · split at e
    · rename_i hk
      split at e
      · rename_i ns hn
        obtain ⟨d, e1, e⟩ := R.of_bind e
        cases e
        obtain ⟨v, o, rfl, h1⟩ := ow.one
        obtain ⟨a, rfl, sq⟩ := sq_ints hk rfl h1 hn
        obtain ⟨v, hs, q⟩ := h H a ns d Q sq e1
        exact ⟨d, v, rfl, hs, q⟩
      · cases e
    · cases e
  · cases e
theorem s_onBls {r : List V → Hp → VK → Prop} {g : List Bool → R D} (h : ∀ H a ns d Q, SqL X.K H a (ns.map V.bl) → g ns = .ok d → ∃ v, isSc d v = true ∧ (Q v H → r [.ref a] H Q)) : CallS X r (onBls g) := s_scalar fun K H w cs vs c Q hK ow e => by
  subst hK
  unfold onBls at e
  split at e
  · split at e
    · rename_i hk
      split at e
      · rename_i ns hn
        obtain ⟨d, e1, e⟩ := R.of_bind e
        cases e
        obtain ⟨v, o, rfl, h1⟩ := ow.one
        obtain ⟨a, rfl, sq⟩ := sq_bls hk rfl h1 hn
        obtain ⟨v, hs, q⟩ := h H a ns d Q sq e1
        exact ⟨d, v, rfl, hs, q⟩
      · cases e
    · cases e
  · cases e
def fSum : List Cell → R Cell := onInts fun ns => .ok (.int ns.sum)
theorem s_sum : CallS X (rSum X.K) fSum := s_onInts fun H a ns d Q sq e => by
  cases e
  exact ⟨.int ns.sum, by simp [isSc], fun q => ⟨a, ns, rfl, sq, q⟩⟩
def maxL : Int → List Int → Int
  | m, [] => m
  | m, x :: r => maxL (if m < x then x else m) r
def minL : Int → List Int → Int
  | m, [] => m
  | m, x :: r => minL (if x < m then x else m) r
theorem maxL_mem : ∀ (r : List Int) (m : Int), maxL m r ∈ m :: r
  | [], m => by simp [maxL]
  | x :: r, m => by
    unfold maxL
    have h := maxL_mem r (if m < x then x else m)
    split at h <;> rename_i hx
    · rw [if_pos hx]; rcases List.mem_cons.mp h with h | h
      · simp [h]
      · simp [h]
    · rw [if_neg hx]; rcases List.mem_cons.mp h with h | h
      · simp [h]
      · simp [h]
theorem maxL_ge : ∀ (r : List Int) (m : Int), ∀ y ∈ m :: r, y ≤ maxL m r
  | [], m, y, h => by simp at h; subst h; exact Int.le_refl _
  | x :: r, m, y, h => by
    unfold maxL
    have ih := maxL_ge r (if m < x then x else m)
    have h0 := ih _ (List.mem_cons_self ..)
    rcases List.mem_cons.mp h with h | h
    · subst h; split at h0 <;> rename_i hx
      · rw [if_pos hx]; omega
      · rw [if_neg hx]; exact h0
    · rcases List.mem_cons.mp h with h | h
      · subst h; split at h0 <;> rename_i hx
        · rw [if_pos hx]; exact h0
        · rw [if_neg hx]; omega
      · exact ih y (List.mem_cons_of_mem _ h)
theorem minL_mem : ∀ (r : List Int) (m : Int), minL m r ∈ m :: r
  | [], m => by simp [minL]
  | x :: r, m => by
    unfold minL
    have h := minL_mem r (if x < m then x else m)
    split at h <;> rename_i hx
    · rw [if_pos hx]; rcases List.mem_cons.mp h with h | h
      · simp [h]
      · simp [h]
    · rw [if_neg hx]; rcases List.mem_cons.mp h with h | h
      · simp [h]
      · simp [h]
theorem minL_le : ∀ (r : List Int) (m : Int), ∀ y ∈ m :: r, minL m r ≤ y
  | [], m, y, h => by simp at h; subst h; exact Int.le_refl _
  | x :: r, m, y, h => by
    unfold minL
    have ih := minL_le r (if x < m then x else m)
    have h0 := ih _ (List.mem_cons_self ..)
    rcases List.mem_cons.mp h with h | h
    · subst h; split at h0 <;> rename_i hx
      · rw [if_pos hx]; omega
      · rw [if_neg hx]; exact h0
    · rcases List.mem_cons.mp h with h | h
      · subst h; split at h0 <;> rename_i hx
        · rw [if_pos hx]; exact h0
        · rw [if_neg hx]; omega
      · exact ih y (List.mem_cons_of_mem _ h)
/-- max(xs) of a list, max(i, j) -/
def fMax : List Cell → R Cell
  | [⟨.int i, _⟩, ⟨.int j, _⟩] => .ok (Cell.fz (.int (if j > i then j else i)))
  | cs => onInts (fun ns => match ns with
    | [] => .bad
    | x :: r => .ok (.int (maxL x r))) cs
def fMin : List Cell → R Cell
  | [⟨.int i, _⟩, ⟨.int j, _⟩] => .ok (Cell.fz (.int (if j < i then j else i)))
  | cs => onInts (fun ns => match ns with
    | [] => .bad
    | x :: r => .ok (.int (minL x r))) cs
theorem s_max : CallS X (fun xs H Q => (∃ i j, xs = [.int i, .int j] ∧ Q (.int (if j > i then j else i)) H) ∨ rMax X.K xs H Q) fMax := by
  intro n H w σ ρ cs vs c Q ok ow e k
  unfold fMax at e
  split at e
  · cases e
    obtain ⟨v, u, o, q, rfl, h1, h2⟩ := ow.two
    cases ow_int h1
    cases ow_int h2
    exact .inl ⟨_, _, rfl, k _ H w ok Step.refl (.fz (.int _))⟩
  · refine .inr (s_onInts (X := X) (r := rMax X.K) (fun H a ns d Q sq e => ?_) n H w σ ρ cs vs c Q ok ow e k)
    split at e
    · cases e
    · rename_i x r
      cases e
      refine ⟨.int (maxL x r), by simp [isSc], fun q => ⟨a, _, rfl, sq, by simp, fun m hm hle => ?_⟩⟩
      have h1 := maxL_ge r x m hm
      have h2 := hle _ (maxL_mem r x)
      have : m = maxL x r := by omega
      rw [this]; exact q
theorem s_min : CallS X (fun xs H Q => (∃ i j, xs = [.int i, .int j] ∧ Q (.int (if j < i then j else i)) H) ∨ rMin X.K xs H Q) fMin := by
  intro n H w σ ρ cs vs c Q ok ow e k
  unfold fMin at e
  split at e
  · cases e
    obtain ⟨v, u, o, q, rfl, h1, h2⟩ := ow.two
    cases ow_int h1
    cases ow_int h2
    exact .inl ⟨_, _, rfl, k _ H w ok Step.refl (.fz (.int _))⟩
  · refine .inr (s_onInts (X := X) (r := rMin X.K) (fun H a ns d Q sq e => ?_) n H w σ ρ cs vs c Q ok ow e k)
    split at e
    · cases e
    · rename_i x r
      cases e
      refine ⟨.int (minL x r), by simp [isSc], fun q => ⟨a, _, rfl, sq, by simp, fun m hm hle => ?_⟩⟩
      have h1 := minL_le r x m hm
      have h2 := hle _ (minL_mem r x)
      have : m = minL x r := by omega
      rw [this]; exact q
theorem call_maxAll (hc : X.calm = true) : CallR X (.builtin "max") (fun xs H Q => (∃ i j, xs = [.int i, .int j] ∧ Q (.int (if j > i then j else i)) H) ∨ rMax X.K xs H Q) := (call_max2 hc).or (cr_max hc)
theorem call_minAll (hc : X.calm = true) : CallR X (.builtin "min") (fun xs H Q => (∃ i j, xs = [.int i, .int j] ∧ Q (.int (if j < i then j else i)) H) ∨ rMin X.K xs H Q) := (call_min2 hc).or (cr_min hc)
def fAll : List Cell → R Cell := onBls fun bs => .ok (.bl (bs.all id))
def fAny : List Cell → R Cell := onBls fun bs => .ok (.bl (bs.any id))
theorem s_all : CallS X (rAll X.K) fAll := s_onBls fun H a ns d Q sq e => by
  cases e
  exact ⟨.bl (ns.all id), by simp [isSc], fun q => ⟨a, ns, rfl, sq, q⟩⟩
theorem s_any : CallS X (rAny X.K) fAny := s_onBls fun H a ns d Q sq e => by
  cases e
  exact ⟨.bl (ns.any id), by simp [isSc], fun q => ⟨a, ns, rfl, sq, q⟩⟩
/-- sorted(xs) of a list of ints -/
def fSorted : List Cell → R Cell
  | [⟨.lst l, k⟩] => if k ≤ 1 then match asInts l with
      | some ns => if ns.length < 64 then .ok ⟨.lst ((ns.mergeSort (fun a b => decide (a ≤ b))).map D.int), 1⟩ else .bad
      | none => .bad
    else .bad
  | _ => .bad
end
end Z

/-! Z: subscripts, slices, displays, tests. -/
namespace Z
open PySem PySem.Spec PyProof.Rows L2
section
variable {K : PySem.W.Frag} {H : Hp} {w : OM}
theorem atI_fz {ds : List D} {vs : List V} {i : Int} {d : D} (h : FzL K H w ds vs) (e : atI ds i = some d) : ∃ v, atI vs i = some v ∧ Fz K H w d v := by
  unfold atI at e ⊢
  rw [← h.length]
  cases q : ixN ds.length i with
  | none => rw [q] at e; cases e
  | some j =>
    rw [q] at e
    obtain ⟨v, h1, h2⟩ := h.get (i := j) e
    exact ⟨v, h1, h2⟩
end
def keyD : D → Option Key
  | .int i => some (.inl i)
  | .str x => some (.inr x)
  | _ => none
def dGet : List Key → List D → Key → Option D
  | k :: ks, d :: ds, q => if k = q then some d else dGet ks ds q
  | _, _, _ => none
theorem dGet_fz {K : PySem.W.Frag} {H : Hp} {w : OM} {q : Key} : ∀ {ds : List D} {kvs : List (Key × V)}, FzL K H w ds (kvs.map (·.2)) → (∀ d, dGet (kvs.map (·.1)) ds q = some d → ∃ v, valV kvs q = some v ∧ Fz K H w d v) ∧ (dGet (kvs.map (·.1)) ds q = none → valV kvs q = none)
  | [], [], _ => ⟨fun d h => by simp [dGet] at h, fun _ => rfl⟩
  | d :: ds, p :: kvs, .cons h t => by
    obtain ⟨ih1, ih2⟩ := dGet_fz (q := q) t
    by_cases e : p.1 = q
    · rw [List.map_cons, dGet, if_pos e, valV_pos e]
      exact ⟨fun d' z => by cases z; exact ⟨_, rfl, h⟩, fun z => by cases z⟩
    · rw [List.map_cons, dGet, if_neg e, valV_neg e]
      exact ⟨ih1, ih2⟩
def fIxS : List Cell → R Cell
  | [⟨.tup l, _⟩, ⟨.int i, _⟩] => match atI l i with
    | some d => .ok (Cell.fz d)
    | none => .bad
  | [⟨.lst l, k⟩, ⟨.int i, _⟩] => if k ≤ 1 then match atI l i with
      | some d => .ok (Cell.fz d)
      | none => .bad
    else .bad
  | [⟨.scr l, _⟩, ⟨.int i, _⟩] => match atI l i with
    | some d => .ok (Cell.fz d)
    | none => .bad
  | [⟨.str z, _⟩, ⟨.int i, _⟩] => if z.length ≤ 16777216 then match atI z.cps.toList i with
      | some c => .ok (Cell.fz (.str ⟨#[c]⟩))
      | none => .bad
    else .bad
  | _ => .bad
def fIxD : List Cell → R Cell
  | [⟨.dct ks ds, _⟩, c] => match keyD c.d with
    | some q => match dGet ks ds q with
      | some d => .ok (Cell.fz d)
      | none => .bad
    | none => .bad
  | _ => .bad
def fIx : List Cell → R Cell
  | [⟨.dct ks ds, k⟩, c] => fIxD [⟨.dct ks ds, k⟩, c]
  | cs => fIxS cs
theorem keyD_ow {K : PySem.W.Frag} {H : Hp} {w : OM} {o : Own} {k : Nat} {d : D} {v : V} {q : Key} (e : keyD d = some q) (h : Ow K H w o k d v) : v = kV q := by
  cases d with
  | int i => cases e; exact ow_int h
  | str x => cases e; exact ow_str h
  | _ => cases e
section
variable {X : Cx}
theorem s_ixS : CallS X (r2L (rIx X.K)) fIxS := by
  intro n H w σ ρ cs vs c Q ok ow e k
  have fin : ∀ {d : D} {v : V}, c = Cell.fz d → Fz X.K H w d v → Q v H := fun e h => by subst e; exact k _ H w ok Step.refl (.fz h)
  unfold fIxS at e
  split at e
  · split at e
    · rename_i hi
      cases e
      obtain ⟨v, u, o, q, rfl, h1, h2⟩ := ow.two
      cases ow_int h2
      obtain ⟨a, xs, rfl, ta, fa⟩ := ow_tup h1
      obtain ⟨z, hz, fz⟩ := atI_fz fa hi
      exact .inr (.inl ⟨a, xs, _, z, rfl, rfl, ta.sq, hz, fin rfl fz⟩)
    · cases e
  · split at e
    · rename_i hk
      split at e
      · rename_i hi
        cases e
        obtain ⟨v, u, o, q, rfl, h1, h2⟩ := ow.two
        cases ow_int h2
        obtain ⟨a, xs, rfl, ta, la, fa⟩ := ow_lst h1
        obtain ⟨z, hz, fz⟩ := atI_fz (fa hk) hi
        exact .inl ⟨a, xs, _, z, rfl, rfl, .inl (.inl ta), hz, fin rfl fz⟩
      · cases e
    · cases e
  · split at e
    · rename_i hi
      cases e
      obtain ⟨v, u, o, q, rfl, h1, h2⟩ := ow.two
      cases ow_int h2
      obtain ⟨a, xs, rfl, ta, fa⟩ := ow_scr h1
      obtain ⟨z, hz, fz⟩ := atI_fz fa hi
      exact .inl ⟨a, xs, _, z, rfl, rfl, ta, hz, fin rfl fz⟩
    · cases e
  · split at e
    · rename_i hl
      split at e
      · rename_i hi
        cases e
        obtain ⟨v, u, o, q, rfl, h1, h2⟩ := ow.two
        cases ow_int h2
        cases ow_str h1
        exact .inr (.inr ⟨_, _, _, rfl, rfl, by rw [sizeLine_eq]; exact hl, hi, fin rfl (.str _)⟩)
      · cases e
    · cases e
  · cases e
theorem s_ixD : CallS X (r2L fun x y H Q => ∃ a v, x = .ref a ∧ DGet H a y (some v) ∧ Q v H) fIxD := by
  intro n H w σ ρ cs vs c Q ok ow e k
  have fin : ∀ {d : D} {v : V}, c = Cell.fz d → Fz X.K H w d v → Q v H := fun e h => by subst e; exact k _ H w ok Step.refl (.fz h)
  unfold fIxD at e
  split at e
  · split at e
    · rename_i hq
      split at e
      · rename_i hd
        cases e
        obtain ⟨v, u, o, q, rfl, h1, h2⟩ := ow.two
        obtain ⟨a, kvs, rfl, ha, hk, fa⟩ := ow_dct h1
        cases keyD_ow hq h2
        subst hk
        obtain ⟨z, hz, fz⟩ := (dGet_fz fa).1 _ hd
        exact ⟨a, z, rfl, .inl ⟨kvs, _, ha, rfl, hz.symm⟩, fin rfl fz⟩
      · cases e
    · cases e
  · cases e
/-- one of two -/
theorem SA.either {e : Expr} {m1 m2 m : AE} (h1 : SA X e m1) (h2 : SA X e m2) (h : ∀ ρ s ρ', m ρ = .ok (s, ρ') → m1 ρ = .ok (s, ρ') ∨ m2 ρ = .ok (s, ρ')) : SA X e m := by
  obtain ⟨t, p, g⟩ := h1.ex
  obtain ⟨u, q, g'⟩ := h2.ex
  refine ⟨_, PE.or p q, fun n σ H w ρ s ρ' Q ok hm k => ?_⟩
  rcases h ρ s ρ' hm with z | z
  · exact .inl (g n σ H w ρ s ρ' Q ok z k)
  · exact .inr (g' n σ H w ρ s ρ' Q ok z k)
theorem mPrim_either {f g h : List Cell → R Cell} {ms : List AE} (z : ∀ cs, h cs = f cs ∨ h cs = g cs) : ∀ ρ s ρ', mPrim h ms ρ = .ok (s, ρ') → mPrim f ms ρ = .ok (s, ρ') ∨ mPrim g ms ρ = .ok (s, ρ') := by
  intro ρ s ρ' e
  obtain ⟨ss, cs, c, e1, e2, e3, rfl⟩ := mPrim_ok e
  have fin : ∀ f' : List Cell → R Cell, h cs = f' cs → mPrim f' ms ρ = .ok (.v c, ρ') := fun f' q => by
    unfold mPrim
    rw [e1]
    simp only [R.ok_bind]
    rw [e2]
    simp only
    rw [← q, e3]
    rfl
  rcases z cs with z | z
  · exact .inl (fin f z)
  · exact .inr (fin g z)
theorem fIx_either (cs : List Cell) : fIx cs = fIxS cs ∨ fIx cs = fIxD cs := by
  unfold fIx
  split
  · exact .inr rfl
  · exact .inl rfl
theorem sa_ix {a b : Expr} {ma mb : AE} {pos : Pos} (hu : X.A.units + 1 < cLine) (ha : SA X a ma) (hb : SA X b mb) (hs : PlainIx b := by exact fun _ _ => rfl) : SA X (.Subscript a b pos) (mPrim fIx [ma, mb]) :=
  SA.either (sa_prim2 s_ixS ha hb fun t u p q => pe_ix ix_seq p q hs) (sa_prim2 s_ixD ha hb fun t u p q => pe_dget hu p q hs) (mPrim_either fIx_either)

/-! ### slices -/
def cutD (xs : List D) (lo hi : Option Int) : List D := (xs.drop (HT.sIx xs.length 0 lo)).take (HT.sIx xs.length xs.length hi - HT.sIx xs.length 0 lo)
theorem cutD_fz {K : PySem.W.Frag} {H : Hp} {w : OM} {ds : List D} {vs : List V} (h : FzL K H w ds vs) (lo hi : Option Int) : FzL K H w (cutD ds lo hi) (cutV vs lo hi) := by
  unfold cutD cutV
  rw [h.length]
  exact (h.drop _).take _
def fSl (c : Cell) (lo hi : Option Int) : R Cell := match c with
  | ⟨.tup l, _⟩ => .ok (Cell.fz (.tup (cutD l lo hi)))
  | ⟨.lst l, k⟩ => if k ≤ 1 then .ok ⟨.lst (cutD l lo hi), 1⟩ else .bad
  | ⟨.str z, _⟩ => if z.length ≤ 16777216 then .ok (Cell.fz (.str (cutS z lo hi))) else .bad
  | _ => .bad
def evO : Option AE → Env → R (Option Int × Env)
  | none, ρ => .ok (none, ρ)
  | some m, ρ => do
    let (s, ρ1) ← m ρ
    match s.cell ρ1 with
    | some ⟨.int i, _⟩ => R.ok (some i, ρ1)
    | _ => R.bad
structure SPO (X : Cx) (e : Option Expr) (m : Option AE) : Prop where
  ex : ∃ t, PO X e t ∧ ∀ (n : Nat) (σ : L2.St) (H : Hp) (w : OM) (ρ : Env) (o : Option Int) (ρ' : Env) (Q : Option Int → Hp → Prop), Ok X.K H w σ ρ → evO m ρ = .ok (o, ρ') →
    (∀ H' w', Ok X.K H' w' σ ρ' → Step n H w H' w' → Q o H') → t σ H Q
theorem spo_none : SPO X none none := ⟨_, po_none, fun n σ H w ρ o ρ' Q ok h k => by
  cases h
  exact k H w ok Step.refl⟩
theorem spo_some {e : Expr} {m : AE} (h : SA X e m) : SPO X (some e) (some m) := by
  obtain ⟨t, p, g⟩ := h.ex
  refine ⟨_, po_some p, fun n σ H w ρ o ρ' Q ok hm k => ?_⟩
  obtain ⟨⟨s, ρ1⟩, e1, hm⟩ := R.of_bind hm
  dsimp only at hm
  split at hm
  · rename_i i _ hc
    cases hm
    refine g n σ H w ρ s _ _ ok e1 fun v H' w' ok' st sa => ?_
    obtain ⟨o, _, h1⟩ := sa.cell ok' hc
    exact ⟨i, ow_int h1, k H' w' ok' st⟩
  · cases hm
def mSl (a : AE) (lo hi : Option AE) : AE := fun ρ => do
  let (s, ρ1) ← a ρ
  let (l, ρ2) ← evO lo ρ1
  let (u, ρ3) ← evO hi ρ2
  match s.cell ρ3 with
  | some c => do
    let r ← fSl c l u
    R.ok (.v r, ρ3)
  | none => R.bad
def rSlAll (K : PySem.W.Frag) : V → Option Int → Option Int → Hp → VK → Prop := fun x lo hi H Q => rSlF K x lo hi H Q ∨ rSlL K x lo hi H Q ∨ rSlS x lo hi H Q
theorem sa_slice {e : Expr} {m : AE} {lo hi : Option Expr} {ml mh : Option AE} {p2 pos : Pos} (he : SA X e m) (hl : SPO X lo ml) (hh : SPO X hi mh) : SA X (.Subscript e (.Slice lo hi none p2) pos) (mSl m ml mh) := by
  obtain ⟨t, p, g⟩ := he.ex
  obtain ⟨tl, pl, gl⟩ := hl.ex
  obtain ⟨th, ph, gh⟩ := hh.ex
  refine ⟨_, pe_slice (r := rSlAll X.K) (sl_tupF.or (sl_list.or sl_str)) p pl ph, fun n σ H w ρ s ρ' Q ok hm k => ?_⟩
  obtain ⟨⟨s1, ρ1⟩, e1, hm⟩ := R.of_bind hm
  obtain ⟨⟨l, ρ2⟩, e2, hm⟩ := R.of_bind hm
  obtain ⟨⟨u, ρ3⟩, e3, hm⟩ := R.of_bind hm
  dsimp only at hm e2 e3
  split at hm
  · rename_i c hc
    obtain ⟨r, e4, hm⟩ := R.of_bind hm
    cases hm
    refine g n σ H w ρ s1 _ _ ok e1 fun v H1 w1 ok1 st1 sa => ?_
    refine gl (n + 1) σ H1 w1 ρ1 l _ _ ok1 e2 fun H2 w2 ok2 st2 => ?_
    refine gh (n + 1) σ H2 w2 ρ2 u _ _ ok2 e3 fun H3 w3 ok3 st3 => ?_
    have st := st1.trans ((st2.trans st3).mono (Nat.le_succ n))
    obtain ⟨o, _, h1⟩ := (sa.step (st2.trans st3) (Nat.lt_succ_self n)).cell ok3 hc
    unfold fSl at e4
    split at e4
    · cases e4
      obtain ⟨a, xs, rfl, ta, fa⟩ := ow_tup h1
      refine .inl ⟨a, xs, rfl, ta.sq, fun z => ?_, fun _ p ob hp hd => ?_⟩
      · refine k _ H3 w3 ok3 st (.fz (.tup ta ?_))
        unfold cutD
        rw [fa.length, z.1, z.2, List.drop_zero, Nat.sub_zero, ← fa.length, List.take_length]
        exact fa
      · exact k _ _ (w3.put p .no) (ok3.new hp .no) (st.trans (Step.new hp)) (.fz (.tup (.inl ⟨⟨ob, upd_same, hd⟩, OM.put_same⟩) ((cutD_fz fa l u).step (Kp.new hp .no))))
    · split at e4
      · rename_i hk
        cases e4
        obtain ⟨a, xs, rfl, ta, la, fa⟩ := ow_lst h1
        refine .inr (.inl ⟨a, xs, rfl, .inl (.inl ta), fun p hp => ?_⟩)
        exact k _ _ (w3.put p (.tm n)) (ok3.new hp _) (st.trans (Step.new hp)) (.lst upd_same OM.put_same ((cutD_fz (fa hk) l u).step (Kp.new hp .no)))
      · cases e4
    · split at e4
      · rename_i hz
        cases e4
        cases ow_str h1
        exact .inr (.inr ⟨_, rfl, by rw [sizeLine_eq]; exact hz, k _ H3 w3 ok3 st (.fz (.str _))⟩)
      · cases e4
    · cases e4
  · cases hm

/-! ### what is handed on: frozen -/
def esc : Src → Env → R (Cell × Env)
  | .v c, ρ => .ok (c, ρ)
  | .s i, ρ => match ρ.get i with
    | some ⟨d, 0⟩ => .ok (Cell.fz d, ρ)
    | some ⟨d, _ + 1⟩ => .ok (Cell.fz d, ρ.set i (some ⟨d, 0⟩))
    | none => .bad
/-- escapes: the cell's value at tm n; from a slot it is frozen -/
theorem esc_ok {K : PySem.W.Frag} {H : Hp} {w : OM} {σ : L2.St} {ρ ρ' : Env} {n : Nat} {s : Src} {v : V} {c : Cell} (ok : Ok K H w σ ρ) (h : SrcAt K H w σ n s v) (e : esc s ρ = .ok (c, ρ')) :
    ∃ w', Ok K H w' σ ρ' ∧ (∀ m, Step m H w H w') ∧ Ow K H w' (.tm n) c.k c.d v ∧ (∀ o, o ≠ .no → (∀ i, o ≠ .sl i) → Kp o H w H w') := by
  cases s with
  | v c' =>
    cases e
    exact ⟨w, ok, fun _ => Step.refl, h, fun o _ _ a x z _ => ⟨z, rfl⟩⟩
  | s i =>
    unfold esc at e
    dsimp only at e
    have h : σ[i]? = some (some v) := h
    split at e
    · rename_i d hc
      cases e
      obtain ⟨u, e1, q⟩ := ok.slot i _ hc
      rw [h] at e1
      cases e1
      refine ⟨w, ok, fun _ => Step.refl, ?_, fun o _ _ a x z _ => ⟨z, rfl⟩⟩
      cases q with
      | fz q => exact .fz q
    · rename_i d k hc
      cases e
      obtain ⟨u, e1, q⟩ := ok.slot i _ hc
      rw [h] at e1
      cases e1
      refine ⟨w.re (.sl i) .no, ok.freeze hc, fun m => Step.re not_fixed_sl, .fz (q.freeze (by intro z; cases z)), fun o h1 h2 => Kp.re (by intro z; cases z) o (h2 i)⟩
    · cases e
/-- all of a list, frozen -/
def escs : List Src → Env → R (List D × Env)
  | [], ρ => .ok ([], ρ)
  | s :: ss, ρ => do
    let (c, ρ1) ← esc s ρ
    let (ds, ρ2) ← escs ss ρ1
    R.ok (c.d :: ds, ρ2)
theorem SrcsAt.kp {K : PySem.W.Frag} {H : Hp} {w w' : OM} {σ : L2.St} : ∀ {ss : List Src} {vs : List V} {n : Nat}, SrcsAt K H w σ n ss vs → (∀ j, n ≤ j → Kp (.tm j) H w H w') → SrcsAt K H w' σ n ss vs
  | [], [], _, _, _ => trivial
  | [], _ :: _, _, h, _ => h.elim
  | _ :: _, [], _, h, _ => h.elim
  | s :: ss, v :: vs, n, ⟨h, t⟩, k => by
    refine ⟨?_, SrcsAt.kp t fun j hj => k j (by omega)⟩
    cases s with
    | v c => exact Ow.step (k n (Nat.le_refl n)) h
    | s i => exact h
theorem escs_ok {K : PySem.W.Frag} {H : Hp} {σ : L2.St} : ∀ {ss : List Src} {vs : List V} {n : Nat} {w : OM} {ρ ρ' : Env} {ds : List D}, Ok K H w σ ρ → SrcsAt K H w σ n ss vs → escs ss ρ = .ok (ds, ρ') →
    ∃ w', Ok K H w' σ ρ' ∧ Step n H w H w' ∧ FzL K H w' ds vs
  | [], [], n, w, ρ, ρ', ds, ok, _, e => by
    cases e
    exact ⟨w, ok, Step.refl, .nil⟩
  | [], _ :: _, _, _, _, _, _, _, h, _ => h.elim
  | _ :: _, [], _, _, _, _, _, _, h, _ => h.elim
  | s :: ss, v :: vs, n, w, ρ, ρ', ds, ok, ⟨h, t⟩, e => by
    obtain ⟨⟨c, ρ1⟩, e1, e⟩ := R.of_bind e
    obtain ⟨⟨ds', ρ2⟩, e2, e⟩ := R.of_bind e
    cases e
    obtain ⟨w1, ok1, st1, h1, kp1⟩ := esc_ok ok h e1
    have ok2 : Ok K H (w1.re (.tm n) .no) σ ρ1 := ok1.re (by intro z; cases z) (by intro i z; cases z)
    have f1 : Fz K H (w1.re (.tm n) .no) c.d v := h1.freeze (by intro z; cases z)
    have t1 : SrcsAt K H (w1.re (.tm n) .no) σ (n + 1) ss vs := (t.kp fun j hj => kp1 _ (by intro z; cases z) (by intro i z; cases z)).kp fun j hj => Kp.re (by intro z; cases z) _ (by intro z; cases z; omega)
    obtain ⟨w3, ok3, st3, f3⟩ := escs_ok ok2 t1 e2
    refine ⟨w3, ok3, ((st1 n).trans (Step.re not_fixed_tm)).trans (st3.mono (Nat.le_succ n)), .cons (st3.fz f1) f3⟩

/-! ### displays -/
def mTup (ms : List AE) : AE := fun ρ => do
  let (ss, ρ1) ← evs ms ρ
  let (ds, ρ2) ← escs ss ρ1
  R.ok (.v (Cell.fz (.tup ds)), ρ2)
def mLst (ms : List AE) : AE := fun ρ => do
  let (ss, ρ1) ← evs ms ρ
  let (ds, ρ2) ← escs ss ρ1
  R.ok (.v ⟨.lst ds, 1⟩, ρ2)
theorem SrcsAt.length {K : PySem.W.Frag} {H : Hp} {w : OM} {σ : L2.St} : ∀ {ss : List Src} {vs : List V} {n : Nat}, SrcsAt K H w σ n ss vs → ss.length = vs.length
  | [], [], _, _ => rfl
  | [], _ :: _, _, h => h.elim
  | _ :: _, [], _, h => h.elim
  | s :: ss, v :: vs, n, ⟨_, t⟩ => by rw [List.length_cons, List.length_cons, t.length]
theorem evs_length : ∀ {ms : List AE} {ρ ρ' : Env} {ss : List Src}, evs ms ρ = .ok (ss, ρ') → ss.length = ms.length
  | [], _, _, _, h => by cases h; rfl
  | m :: ms, ρ, ρ', ss, h => by
    obtain ⟨⟨s, ρ1⟩, e1, h⟩ := R.of_bind h
    obtain ⟨⟨ss2, ρ2⟩, e2, h⟩ := R.of_bind h
    cases h
    rw [List.length_cons, List.length_cons, evs_length e2]
theorem sa_tup {es : List Expr} {ms : List AE} {x1 : Nat} {pos : Pos} (h : SAs X es ms) (hl : ms.length ≤ 1000 := by decide) : SA X (.Tuple es x1 pos) (mTup ms) := by
  obtain ⟨t, p, g⟩ := h.ex
  refine ⟨_, pe_tupF p, fun n σ H w ρ s ρ' Q ok hm k => ?_⟩
  obtain ⟨⟨ss, ρ1⟩, e1, hm⟩ := R.of_bind hm
  obtain ⟨⟨ds, ρ2⟩, e2, hm⟩ := R.of_bind hm
  cases hm
  refine g n σ H w ρ ss _ _ ok e1 fun vs H1 w1 ok1 st1 sa => ?_
  obtain ⟨w2, ok2, st2, f2⟩ := escs_ok ok1 sa e2
  refine ⟨?_, fun p ob hp hd => ?_⟩
  · rw [sizeLine_eq, ← sa.length, evs_length e1]; omega
  · exact k _ _ (w2.put p .no) (ok2.new hp .no) ((st1.trans st2).trans (Step.new hp)) (.fz (.tup (.inl ⟨⟨ob, upd_same, hd⟩, OM.put_same⟩) (f2.step (Kp.new hp .no))))
theorem sa_lst {es : List Expr} {ms : List AE} {pos : Pos} (h : SAs X es ms) (hl : ms.length ≤ 1000 := by decide) : SA X (.List es pos) (mLst ms) := by
  obtain ⟨t, p, g⟩ := h.ex
  refine ⟨_, pe_lst p, fun n σ H w ρ s ρ' Q ok hm k => ?_⟩
  obtain ⟨⟨ss, ρ1⟩, e1, hm⟩ := R.of_bind hm
  obtain ⟨⟨ds, ρ2⟩, e2, hm⟩ := R.of_bind hm
  cases hm
  refine g n σ H w ρ ss _ _ ok e1 fun vs H1 w1 ok1 st1 sa => ?_
  obtain ⟨w2, ok2, st2, f2⟩ := escs_ok ok1 sa e2
  refine ⟨?_, fun p hp => ?_⟩
  · rw [sizeLine_eq, ← sa.length, evs_length e1]; omega
  · exact k _ _ (w2.put p (.tm n)) (ok2.new hp _) ((st1.trans st2).trans (Step.new hp)) (.lst upd_same OM.put_same (f2.step (Kp.new hp .no)))

/-! ### tests -/
abbrev MT := Env → R (Bool × Env)
structure ST (X : Cx) (e : Expr) (m : MT) : Prop where
  ex : ∃ t, PT X e t ∧ ∀ (n : Nat) (σ : L2.St) (H : Hp) (w : OM) (ρ : Env) (b : Bool) (ρ' : Env) (Q : Bool → Hp → Prop), Ok X.K H w σ ρ → m ρ = .ok (b, ρ') →
    (∀ H' w', Ok X.K H' w' σ ρ' → Step n H w H' w' → Q b H') → t σ H Q
structure SW (X : Cx) (e : Expr) (m : MT) : Prop where
  ex : ∃ t, PW X e t ∧ ∀ (n : Nat) (σ : L2.St) (H : Hp) (w : OM) (ρ : Env) (b : Bool) (ρ' : Env) (Q : Bool → Hp → Prop), Ok X.K H w σ ρ → m ρ = .ok (b, ρ') →
    (∀ H' w', Ok X.K H' w' σ ρ' → Step n H w H' w' → Q b H') → t σ H Q
theorem SW.st {e : Expr} {m : MT} (h : SW X e m) : ST X e m := by
  obtain ⟨t, p, g⟩ := h.ex
  exact ⟨t, p.pt, g⟩
def truth : D → Option Bool
  | .non => some false
  | .bl b => some b
  | .int i => some (i != 0)
  | .str x => if x.length ≤ 16777216 then some ((x.length : Int) != 0) else none
  | .tup l => some (!l.isEmpty)
  | .lst l => some (!l.isEmpty)
  | .scr l => some (!l.isEmpty)
  | .dct _ _ => none
theorem isEmpty_eq {α β : Type} {l : List α} {m : List β} (h : l.length = m.length) : l.isEmpty = m.isEmpty := by
  cases l <;> cases m <;> first | rfl | (simp at h)
theorem truth_ok {H : Hp} {w : OM} {o : Own} {k : Nat} {d : D} {v : V} {b : Bool} (h : Ow X.K H w o k d v) (e : truth d = some b) : TruV X.K v H b := by
  cases d with
  | non => cases e; cases ow_non h; rfl
  | bl c => cases e; cases ow_bl h; rfl
  | int i => cases e; cases ow_int h; rfl
  | str x =>
    have e : (if x.length ≤ 16777216 then some ((x.length : Int) != 0) else none) = some b := e
    split at e
    · rename_i hx
      cases e; cases ow_str h
      exact ⟨by rw [sizeLine_eq]; exact hx, rfl⟩
    · cases e
  | tup l =>
    cases e
    obtain ⟨a, xs, rfl, ta, fa⟩ := ow_tup h
    exact .inr (.inl ⟨xs, ta.sq, by rw [isEmpty_eq fa.length]⟩)
  | lst l =>
    cases e
    obtain ⟨a, xs, rfl, ta, la, fa⟩ := ow_lst h
    exact .inl ⟨xs, .inl (.inl ta), by rw [isEmpty_eq la]⟩
  | scr l =>
    cases e
    obtain ⟨a, xs, rfl, ta, fa⟩ := ow_scr h
    exact .inl ⟨xs, ta, by rw [isEmpty_eq fa.length]⟩
  | dct ks ds => cases e
def mTest (a : AE) : MT := fun ρ => do
  let (s, ρ1) ← a ρ
  match s.cell ρ1 with
  | some c => match truth c.d with
    | some b => R.ok (b, ρ1)
    | none => R.bad
  | none => R.bad
theorem mTest_ok {a : AE} {ρ ρ' : Env} {b : Bool} (h : mTest a ρ = .ok (b, ρ')) : ∃ s c, a ρ = .ok (s, ρ') ∧ s.cell ρ' = some c ∧ truth c.d = some b := by
  obtain ⟨⟨s, ρ1⟩, e1, h⟩ := R.of_bind h
  dsimp only at h
  split at h
  · rename_i c hc
    split at h
    · rename_i hb
      cases h
      exact ⟨s, c, e1, hc, hb⟩
    · cases h
  · cases h
/-- the truth of a value; not for comparisons, and, or, not, if -/
theorem st_truth {e : Expr} {m : AE} (ha : SA X e m) (he : ∀ whole, isTrue e X.env whole = (do let v ← whole; standAt e.pos; holding [v] (truthy v)) := by exact fun _ => rfl) : ST X e (mTest m) := by
  obtain ⟨t, p, g⟩ := ha.ex
  refine ⟨_, pt_truth p he, fun n σ H w ρ b ρ' Q ok hm k => ?_⟩
  obtain ⟨s, c, e1, hc, hb⟩ := mTest_ok hm
  refine g n σ H w ρ s _ _ ok e1 fun v H1 w1 ok1 st1 sa => ?_
  obtain ⟨o, _, h1⟩ := sa.cell ok1 hc
  exact ⟨b, truth_ok h1 hb, k H1 w1 ok1 st1⟩
theorem mTest_bl {m : AE} {ρ ρ' : Env} {b : Bool} (h : mTest m ρ = .ok (b, ρ')) : ∃ s c, m ρ = .ok (s, ρ') ∧ s.cell ρ' = some c ∧ truth c.d = some b := mTest_ok h
/-- a comparison -/
theorem st_cmp {op : CmpOp} {f : List Cell → R Cell} {r : R2} {a b : Expr} {ma mb : AE} {pos : Pos} (ho : OpR X (compareOp op) r) (hs : CallS X (r2L r) f) (hm : behindInMarks op b = false) (ha : SA X a ma) (hb : SA X b mb)
    (hB : ∀ cs c, f cs = .ok c → ∃ k, c = Cell.fz (.bl k)) : ST X (.Compare a [op] [b] pos) (mTest (mPrim f [ma, mb])) := by
  obtain ⟨t, p, h⟩ := ha.ex
  obtain ⟨u, q, g⟩ := hb.ex
  refine ⟨_, pt_cmpR ho p q hm, fun n σ H w ρ bb ρ' Q ok hm k => ?_⟩
  obtain ⟨s, c0, e0, hc0, hb0⟩ := mTest_ok hm
  obtain ⟨ss, cs, c, e1, e2, e3, rfl⟩ := mPrim_ok e0
  cases hc0
  obtain ⟨kk, rfl⟩ := hB _ _ e3
  cases hb0
  obtain ⟨⟨s1, ρ1⟩, f1, e1⟩ := R.of_bind e1
  obtain ⟨⟨ss2, ρ2⟩, f2, e1⟩ := R.of_bind e1
  cases e1
  obtain ⟨⟨s2, ρ3⟩, f3, f2⟩ := R.of_bind f2
  cases f2
  refine h n σ H w ρ s1 ρ1 _ ok f1 fun v H1 w1 ok1 st1 q1 => ?_
  refine g (n + 1) σ H1 w1 ρ1 s2 ρ' _ ok1 f3 fun v2 H2 w2 ok2 st2 q2 => ?_
  refine hs n H2 w2 σ ρ' cs [v, v2] _ _ ok2 (SrcsAt.cells (n := n) (ss := [s1, s2]) (vs := [v, v2]) ok2 ⟨q1.step st2 (Nat.lt_succ_self n), q2, trivial⟩ e2) e3 fun v3 H3 w3 ok3 st3 q3 => ?_
  exact ⟨_, ow_bl q3, k H3 w3 ok3 ((st1.trans (st2.mono (Nat.le_succ n))).trans st3)⟩
theorem bl_I2 {g : Int → Int → R D} (h : ∀ i j d, g i j = .ok d → ∃ k, d = .bl k) : ∀ cs c, fI2 g cs = .ok c → ∃ k, c = Cell.fz (.bl k) := fun cs c e => by
  unfold fI2 at e
  split at e
  · obtain ⟨d, e1, e⟩ := R.of_bind e
    cases e
    obtain ⟨k, rfl⟩ := h _ _ _ e1
    exact ⟨k, rfl⟩
  · cases e
theorem bl_cmp {p : Int → Int → Bool} : ∀ cs c, fCmp p cs = .ok c → ∃ k, c = Cell.fz (.bl k) := bl_I2 fun i j d e => by cases e; exact ⟨_, rfl⟩
theorem bl_eq : ∀ cs c, fEq cs = .ok c → ∃ k, c = Cell.fz (.bl k) := fun cs c e => by
  unfold fEq at e
  split at e
  · split at e
    · cases e; exact ⟨_, rfl⟩
    · cases e
  · cases e
theorem bl_ne : ∀ cs c, fNe cs = .ok c → ∃ k, c = Cell.fz (.bl k) := fun cs c e => by
  unfold fNe at e
  split at e
  · split at e
    · cases e; exact ⟨_, rfl⟩
    · cases e
  · cases e
theorem bl_in {neg : Bool} : ∀ cs c, fIn neg cs = .ok c → ∃ k, c = Cell.fz (.bl k) := fun cs c e => by
  unfold fIn at e
  split at e
  · obtain ⟨b, e1, e⟩ := R.of_bind e
    cases e
    exact ⟨_, rfl⟩
  · cases e
theorem bl_isN : ∀ cs c, fIsN cs = .ok c → ∃ k, c = Cell.fz (.bl k) := fun cs c e => by
  unfold fIsN at e
  split at e
  · cases e; exact ⟨_, rfl⟩
  · cases e
theorem bl_notN : ∀ cs c, fNotN cs = .ok c → ∃ k, c = Cell.fz (.bl k) := fun cs c e => by
  unfold fNotN at e
  split at e
  · cases e; exact ⟨_, rfl⟩
  · cases e
def mNotT (m : MT) : MT := fun ρ => do
  let (b, ρ1) ← m ρ
  R.ok (!b, ρ1)
theorem st_not {e : Expr} {m : MT} {pos : Pos} (h : ST X e m) : ST X (.UnaryOp .Not e pos) (mNotT m) := by
  obtain ⟨t, p, g⟩ := h.ex
  refine ⟨_, pt_not p, fun n σ H w ρ b ρ' Q ok hm k => ?_⟩
  obtain ⟨⟨c, ρ1⟩, e1, hm⟩ := R.of_bind hm
  cases hm
  exact g n σ H w ρ c _ _ ok e1 fun H1 w1 ok1 st1 => k H1 w1 ok1 st1
def mAndT (a b : MT) : MT := fun ρ => do
  let (c, ρ1) ← a ρ
  if c then b ρ1 else R.ok (false, ρ1)
def mOrT (a b : MT) : MT := fun ρ => do
  let (c, ρ1) ← a ρ
  if c then R.ok (true, ρ1) else b ρ1
theorem sw_and1 {a : Expr} {m : MT} {pos : Pos} (h : ST X a m) : SW X (.BoolOp .And [a] pos) m := by
  obtain ⟨t, p, g⟩ := h.ex
  exact ⟨t, pw_and1 p, g⟩
theorem sw_or1 {a : Expr} {m : MT} {pos : Pos} (h : ST X a m) : SW X (.BoolOp .Or [a] pos) m := by
  obtain ⟨t, p, g⟩ := h.ex
  exact ⟨t, pw_or1 p, g⟩
theorem sw_and {a b : Expr} {rest : List Expr} {m m2 : MT} {pos : Pos} (h : ST X a m) (h2 : SW X (.BoolOp .And (b :: rest) pos) m2) : SW X (.BoolOp .And (a :: b :: rest) pos) (mAndT m m2) := by
  obtain ⟨t, p, g⟩ := h.ex
  obtain ⟨t2, p2, g2⟩ := h2.ex
  refine ⟨_, pw_and p p2, fun n σ H w ρ b ρ' Q ok hm k => ?_⟩
  obtain ⟨⟨c, ρ1⟩, e1, hm⟩ := R.of_bind hm
  refine g n σ H w ρ c _ _ ok e1 fun H1 w1 ok1 st1 => ?_
  cases c with
  | true => exact iteT (g2 n σ H1 w1 ρ1 b ρ' Q ok1 hm fun H2 w2 ok2 st2 => k H2 w2 ok2 (st1.trans st2))
  | false =>
    cases hm
    exact iteF (k H1 w1 ok1 st1)
theorem sw_or {a b : Expr} {rest : List Expr} {m m2 : MT} {pos : Pos} (h : ST X a m) (h2 : SW X (.BoolOp .Or (b :: rest) pos) m2) : SW X (.BoolOp .Or (a :: b :: rest) pos) (mOrT m m2) := by
  obtain ⟨t, p, g⟩ := h.ex
  obtain ⟨t2, p2, g2⟩ := h2.ex
  refine ⟨_, pw_or p p2, fun n σ H w ρ b ρ' Q ok hm k => ?_⟩
  obtain ⟨⟨c, ρ1⟩, e1, hm⟩ := R.of_bind hm
  refine g n σ H w ρ c _ _ ok e1 fun H1 w1 ok1 st1 => ?_
  cases c with
  | false => exact iteF (g2 n σ H1 w1 ρ1 b ρ' Q ok1 hm fun H2 w2 ok2 st2 => k H2 w2 ok2 (st1.trans st2))
  | true =>
    cases hm
    exact iteT (k H1 w1 ok1 st1)
/-! ### and, or, not, if as values -/
def mNotV (a : AE) : AE := fun ρ => do
  let (b, ρ1) ← mTest a ρ
  R.ok (.v (Cell.fz (.bl (!b))), ρ1)
theorem sa_not {e : Expr} {m : AE} {pos : Pos} (h : SA X e m) : SA X (.UnaryOp .Not e pos) (mNotV m) := by
  obtain ⟨t, p, g⟩ := h.ex
  refine ⟨_, pe_notT p, fun n σ H w ρ s ρ' Q ok hm k => ?_⟩
  obtain ⟨⟨b, ρ1⟩, e1, hm⟩ := R.of_bind hm
  cases hm
  obtain ⟨s, c, e1, hc, hb⟩ := mTest_ok e1
  refine g n σ H w ρ s _ _ ok e1 fun v H1 w1 ok1 st1 sa => ?_
  obtain ⟨o, _, h1⟩ := sa.cell ok1 hc
  exact ⟨b, truth_ok h1 hb, k _ H1 w1 ok1 st1 (.fz (.bl _))⟩
/-- and, or of bools: the last one may be anything -/
def mAndV (a b : AE) : AE := fun ρ => do
  let (s, ρ1) ← a ρ
  match s.cell ρ1 with
  | some ⟨.bl c, _⟩ => if c then b ρ1 else R.ok (.v (Cell.fz (.bl false)), ρ1)
  | _ => R.bad
def mOrV (a b : AE) : AE := fun ρ => do
  let (s, ρ1) ← a ρ
  match s.cell ρ1 with
  | some ⟨.bl c, _⟩ => if c then R.ok (.v (Cell.fz (.bl true)), ρ1) else b ρ1
  | _ => R.bad
theorem sa_one {op : BoolOp} {a : Expr} {m : AE} {pos : Pos} (h : SA X a m) : SA X (.BoolOp op [a] pos) m := by
  obtain ⟨t, p, g⟩ := h.ex
  exact ⟨t, pe_one p, g⟩
theorem sa_and {a b : Expr} {rest : List Expr} {m m2 : AE} {pos : Pos} (h : SA X a m) (h2 : SA X (.BoolOp .And (b :: rest) pos) m2) : SA X (.BoolOp .And (a :: b :: rest) pos) (mAndV m m2) := by
  obtain ⟨t, p, g⟩ := h.ex
  obtain ⟨t2, p2, g2⟩ := h2.ex
  refine ⟨_, pe_and p p2, fun n σ H w ρ s ρ' Q ok hm k => ?_⟩
  obtain ⟨⟨s1, ρ1⟩, e1, hm⟩ := R.of_bind hm
  dsimp only at hm
  split at hm
  · rename_i c _ hc
    refine g n σ H w ρ s1 _ _ ok e1 fun v H1 w1 ok1 st1 sa => ?_
    obtain ⟨o, _, h1⟩ := sa.cell ok1 hc
    refine ⟨c, ow_bl h1, ?_⟩
    cases c with
    | true => exact iteT (g2 n σ H1 w1 ρ1 s ρ' Q ok1 hm fun v H2 w2 ok2 st2 => k v H2 w2 ok2 (st1.trans st2))
    | false =>
      cases hm
      exact iteF (k _ H1 w1 ok1 st1 (.fz (.bl _)))
  · cases hm
theorem sa_or {a b : Expr} {rest : List Expr} {m m2 : AE} {pos : Pos} (h : SA X a m) (h2 : SA X (.BoolOp .Or (b :: rest) pos) m2) : SA X (.BoolOp .Or (a :: b :: rest) pos) (mOrV m m2) := by
  obtain ⟨t, p, g⟩ := h.ex
  obtain ⟨t2, p2, g2⟩ := h2.ex
  refine ⟨_, pe_or p p2, fun n σ H w ρ s ρ' Q ok hm k => ?_⟩
  obtain ⟨⟨s1, ρ1⟩, e1, hm⟩ := R.of_bind hm
  dsimp only at hm
  split at hm
  · rename_i c _ hc
    refine g n σ H w ρ s1 _ _ ok e1 fun v H1 w1 ok1 st1 sa => ?_
    obtain ⟨o, _, h1⟩ := sa.cell ok1 hc
    refine ⟨c, ow_bl h1, ?_⟩
    cases c with
    | false => exact iteF (g2 n σ H1 w1 ρ1 s ρ' Q ok1 hm fun v H2 w2 ok2 st2 => k v H2 w2 ok2 (st1.trans st2))
    | true =>
      cases hm
      exact iteT (k _ H1 w1 ok1 st1 (.fz (.bl _)))
  · cases hm
def mIfE (t : MT) (a b : AE) : AE := fun ρ => do
  let (c, ρ1) ← t ρ
  if c then a ρ1 else b ρ1
theorem sa_if {c a b : Expr} {mc : MT} {ma mb : AE} {pos : Pos} (hc : ST X c mc) (ha : SA X a ma) (hb : SA X b mb) : SA X (.IfExp c a b pos) (mIfE mc ma mb) := by
  obtain ⟨t, p, g⟩ := hc.ex
  obtain ⟨ta, pa, ga⟩ := ha.ex
  obtain ⟨tb, pb, gb⟩ := hb.ex
  refine ⟨_, pe_ifExp p pa pb, fun n σ H w ρ s ρ' Q ok hm k => ?_⟩
  obtain ⟨⟨b, ρ1⟩, e1, hm⟩ := R.of_bind hm
  refine g n σ H w ρ b _ _ ok e1 fun H1 w1 ok1 st1 => ?_
  cases b with
  | true => exact iteT (ga n σ H1 w1 ρ1 s ρ' Q ok1 hm fun v H2 w2 ok2 st2 => k v H2 w2 ok2 (st1.trans st2))
  | false => exact iteF (gb n σ H1 w1 ρ1 s ρ' Q ok1 hm fun v H2 w2 ok2 st2 => k v H2 w2 ok2 (st1.trans st2))
/-- a op1 b op2 c -/
def mChain (f g : List Cell → R Cell) (a b c : AE) : AE := fun ρ => do
  let (s1, ρ1) ← a ρ
  let (s2, ρ2) ← b ρ1
  match s1.cell ρ2, s2.cell ρ2 with
  | some c1, some c2 => do
    let r ← f [c1, c2]
    match r with
    | ⟨.bl true, _⟩ => do
      let (s3, ρ3) ← c ρ2
      match s2.cell ρ3, s3.cell ρ3 with
      | some c2, some c3 => do
        let r ← g [c2, c3]
        R.ok (.v r, ρ3)
      | _, _ => R.bad
    | ⟨.bl false, _⟩ => R.ok (.v (Cell.fz (.bl false)), ρ2)
    | _ => R.bad
  | _, _ => R.bad
theorem chain_core {f f' : List Cell → R Cell} {r r' : R2} {a b c : Expr} {ma mb mc : AE} (hs : CallS X (r2L r) f) (hs' : CallS X (r2L r') f') (ha : SA X a ma) (hb : SA X b mb) (hc : SA X c mc) :
    ∃ ta tb tc, PE X a ta ∧ PE X b tb ∧ PE X c tc ∧ ∀ (n : Nat) (σ : L2.St) (H : Hp) (w : OM) (ρ : Env) (s : Src) (ρ' : Env) (Q : VK), Ok X.K H w σ ρ → mChain f f' ma mb mc ρ = .ok (s, ρ') →
      (∀ v H' w', Ok X.K H' w' σ ρ' → Step n H w H' w' → SrcAt X.K H' w' σ n s v → Q v H') → tChain r r' ta tb tc σ H Q := by
  obtain ⟨ta, pa, ga⟩ := ha.ex
  obtain ⟨tb, pb, gb⟩ := hb.ex
  obtain ⟨tc, pc, gc⟩ := hc.ex
  refine ⟨ta, tb, tc, pa, pb, pc, fun n σ H w ρ s ρ' Q ok hm k => ?_⟩
  obtain ⟨⟨s1, ρ1⟩, e1, hm⟩ := R.of_bind hm
  obtain ⟨⟨s2, ρ2⟩, e2, hm⟩ := R.of_bind hm
  dsimp only at hm e2
  split at hm
  · rename_i c1 c2 h1 h2
    obtain ⟨r0, e3, hm⟩ := R.of_bind hm
    refine ga n σ H w ρ s1 _ _ ok e1 fun v1 H1 w1 ok1 st1 a1 => ?_
    refine gb (n + 1) σ H1 w1 ρ1 s2 _ _ ok1 e2 fun v2 H2 w2 ok2 st2 a2 => ?_
    have st12 := st1.trans (st2.mono (Nat.le_succ n))
    refine hs (n + 2) H2 w2 σ ρ2 [c1, c2] [v1, v2] r0 _ ok2 (SrcsAt.cells (n := n) (ss := [s1, s2]) (vs := [v1, v2]) ok2 ⟨a1.step st2 (Nat.lt_succ_self n), a2, trivial⟩ (by show (match s1.cell ρ2, cells ρ2 [s2] with | some c, some cs => some (c :: cs) | _, _ => none) = _; rw [h1]; show (match some c1, (match s2.cell ρ2, cells ρ2 [] with | some c, some cs => some (c :: cs) | _, _ => none) with | some c, some cs => some (c :: cs) | _, _ => none) = _; rw [h2]; rfl)) e3 fun v3 H3 w3 ok3 st3 q3 => ?_
    split at hm
    · refine ⟨true, ow_bl q3, iteT ?_⟩
      obtain ⟨⟨s3, ρ3⟩, e4, hm⟩ := R.of_bind hm
      dsimp only at hm
      split at hm
      · rename_i c2' c3 h3 h4
        obtain ⟨r1, e5, hm⟩ := R.of_bind hm
        cases hm
        refine gc (n + 2) σ H3 w3 ρ2 s3 _ _ ok3 e4 fun v4 H4 w4 ok4 st4 a4 => ?_
        have a2' : SrcAt X.K H4 w4 σ (n + 1) s2 v2 := (a2.step st3 (by omega)).step st4 (by omega)
        refine hs' n H4 w4 σ _ [c2', c3] [v2, v4] r1 Q ok4 ?_ e5 fun v5 H5 w5 ok5 st5 q5 => ?_
        · exact SrcsAt.cells (n := n + 1) (ss := [s2, s3]) (vs := [v2, v4]) ok4 ⟨a2', a4, trivial⟩ (by show (match s2.cell _, cells _ [s3] with | some c, some cs => some (c :: cs) | _, _ => none) = _; rw [h3]; show (match some c2', (match s3.cell _, cells _ [] with | some c, some cs => some (c :: cs) | _, _ => none) with | some c, some cs => some (c :: cs) | _, _ => none) = _; rw [h4]; rfl)
        · exact k v5 H5 w5 ok5 (((st12.trans (st3.mono (by omega))).trans (st4.mono (by omega))).trans st5) q5
      · cases hm
    · cases hm
      exact ⟨false, ow_bl q3, iteF (k _ H3 w3 ok3 (st12.trans (st3.mono (by omega))) (.fz (.bl _)))⟩
    · cases hm
  · cases hm
theorem sa_chain {op op' : CmpOp} {f f' : List Cell → R Cell} {r r' : R2} {a b c : Expr} {ma mb mc : AE} {pos : Pos} (ho : OpR X (compareOp op) r) (ho' : OpR X (compareOp op') r') (hs : CallS X (r2L r) f) (hs' : CallS X (r2L r') f') (ha : SA X a ma) (hb : SA X b mb) (hc : SA X c mc)
    (hm : lastMarks [op, op'] [b, c] = false := by with_unfolding_all rfl) : SA X (.Compare a [op, op'] [b, c] pos) (mChain f f' ma mb mc) := by
  obtain ⟨ta, tb, tc, pa, pb, pc, g⟩ := chain_core hs hs' ha hb hc
  exact ⟨_, pe_chain ho ho' pa pb pc hm, g⟩
theorem st_chain {op op' : CmpOp} {f f' : List Cell → R Cell} {r r' : R2} {a b c : Expr} {ma mb mc : AE} {pos : Pos} (ho : OpR X (compareOp op) r) (ho' : OpR X (compareOp op') r') (hs : CallS X (r2L r) f) (hs' : CallS X (r2L r') f') (ha : SA X a ma) (hb : SA X b mb) (hc : SA X c mc)
    (hB : ∀ cs c, f' cs = .ok c → ∃ k, c = Cell.fz (.bl k)) (hm : lastMarks [op, op'] [b, c] = false := by with_unfolding_all rfl) : ST X (.Compare a [op, op'] [b, c] pos) (mTest (mChain f f' ma mb mc)) := by
  obtain ⟨ta, tb, tc, pa, pb, pc, g⟩ := chain_core hs hs' ha hb hc
  refine ⟨_, pt_chain ho ho' pa pb pc hm, fun n σ H w ρ bb ρ' Q ok hm k => ?_⟩
  obtain ⟨s, c0, e0, hc0, hb0⟩ := mTest_ok hm
  refine g n σ H w ρ s ρ' _ ok e0 fun v H1 w1 ok1 st1 sa => ?_
  have isB : ∃ k, s = .v (Cell.fz (.bl k)) := by
    obtain ⟨⟨s1, ρ1⟩, e1, e0⟩ := R.of_bind e0
    obtain ⟨⟨s2, ρ2⟩, e2, e0⟩ := R.of_bind e0
    dsimp only at e0
    split at e0
    · obtain ⟨r0, e3, e0⟩ := R.of_bind e0
      split at e0
      · obtain ⟨⟨s3, ρ3⟩, e4, e0⟩ := R.of_bind e0
        dsimp only at e0
        split at e0
        · obtain ⟨r1, e5, e0⟩ := R.of_bind e0
          cases e0
          obtain ⟨k, rfl⟩ := hB _ _ e5
          exact ⟨k, rfl⟩
        · cases e0
      · cases e0; exact ⟨false, rfl⟩
      · cases e0
    · cases e0
  obtain ⟨kk, rfl⟩ := isB
  cases hc0
  cases hb0
  have sa : Ow X.K H1 w1 (.tm n) 0 (.bl bb) v := sa
  exact ⟨_, ow_bl sa, k H1 w1 ok1 st1⟩
end
end Z

/-! Z: statements, loops. -/
namespace Z
open PySem PySem.Spec PyProof.Rows L2

inductive Fl where
  | next | brk | cont | ret (c : Cell)
/-- L: the slots that may not be bound anew -/
abbrev MS := List Nat → Env → R (Fl × Env)
def FlP (K : PySem.W.Frag) (D : Ends) (n : Nat) (H : Hp) (w : OM) (σ : L2.St) : Fl → Prop
  | .next => D.nx σ H
  | .brk => D.bk σ H
  | .cont => D.ct σ H
  | .ret c => ∀ v, Ow K H w (.tm n) c.k c.d v → D.rt v H
structure SS (X : Cx) (s : Stmt) (m : MS) : Prop where
  ex : ∃ t, PS X s t ∧ ∀ (n : Nat) (σ : L2.St) (H : Hp) (w : OM) (ρ : Env) (L : List Nat) (fl : Fl) (ρ' : Env) (D : Ends), Ok X.K H w σ ρ → m L ρ = .ok (fl, ρ') →
    (∀ σ' H' w', Ok X.K H' w' σ' ρ' → Step n H w H' w' → (∀ i ∈ L, σ'[i]? = σ[i]?) → FlP X.K D n H' w' σ' fl) → t D σ H
structure SSs (X : Cx) (s : List Stmt) (m : MS) : Prop where
  ex : ∃ t, PSs X s t ∧ ∀ (n : Nat) (σ : L2.St) (H : Hp) (w : OM) (ρ : Env) (L : List Nat) (fl : Fl) (ρ' : Env) (D : Ends), Ok X.K H w σ ρ → m L ρ = .ok (fl, ρ') →
    (∀ σ' H' w', Ok X.K H' w' σ' ρ' → Step n H w H' w' → (∀ i ∈ L, σ'[i]? = σ[i]?) → FlP X.K D n H' w' σ' fl) → t D σ H

/-! ### a value is taken -/
def take (L : List Nat) : Src → Env → R (Cell × Env)
  | .v c, ρ => .ok (c, ρ)
  | .s i, ρ => match ρ.get i with
    | some ⟨d, 0⟩ => .ok (Cell.fz d, ρ)
    | some ⟨d, k + 1⟩ => if L.contains i then .ok (Cell.fz d, ρ.set i (some ⟨d, 0⟩)) else .ok (⟨d, k + 1⟩, ρ.set i none)
    | none => .bad
section
variable {K : PySem.W.Frag} {H : Hp} {w : OM} {σ : L2.St} {ρ ρ' : Env} {n : Nat}
theorem Ok.drop {i : Nat} (ok : Ok K H w σ ρ) : Ok K H w σ (ρ.set i none) := by
  refine ⟨by rw [Env.length_set]; exact ok.len, fun j x q => ?_, ok.live⟩
  rcases Env.get_set q with ⟨_, z⟩ | ⟨_, z⟩
  · cases z
  · exact ok.slot j x z
theorem take_ok {L : List Nat} {s : Src} {v : V} {c : Cell} (ok : Ok K H w σ ρ) (h : SrcAt K H w σ n s v) (e : take L s ρ = .ok (c, ρ')) :
    ∃ w', Ok K H w' σ ρ' ∧ (∀ m, Step m H w H w') ∧ Ow K H w' (.tm n) c.k c.d v := by
  cases s with
  | v c' =>
    cases e
    exact ⟨w, ok, fun _ => Step.refl, h⟩
  | s i =>
    unfold take at e
    dsimp only at e
    have h : σ[i]? = some (some v) := h
    split at e
    · rename_i d hc
      cases e
      obtain ⟨u, e1, q⟩ := ok.slot i _ hc
      rw [h] at e1
      cases e1
      refine ⟨w, ok, fun _ => Step.refl, ?_⟩
      cases q with
      | fz q => exact .fz q
    · rename_i d k hc
      obtain ⟨u, e1, q⟩ := ok.slot i _ hc
      rw [h] at e1
      cases e1
      split at e
      · cases e
        exact ⟨w.re (.sl i) .no, ok.freeze hc, fun m => Step.re not_fixed_sl, .fz (q.freeze (by intro z; cases z))⟩
      · cases e
        refine ⟨w.re (.sl i) (.tm n), ?_, fun m => Step.re not_fixed_sl, q.re (by intro z; cases z)⟩
        refine ⟨by rw [Env.length_set]; exact ok.len, fun j x q => ?_, fun a h => ?_⟩
        · rcases Env.get_set q with ⟨_, z⟩ | ⟨hj, z⟩
          · cases z
          · obtain ⟨v, e1, h⟩ := ok.slot j x z
            exact ⟨v, e1, h.other (by intro z; cases z) (by intro z; cases z; exact hj rfl)⟩
        · by_cases z : w a = .sl i
          · exact ok.live a (by rw [z]; intro q; cases q)
          · rw [OM.re_ne z] at h; exact ok.live a h
    · cases e
/-- a value is bound to a slot -/
theorem Ok.store {i : Nat} {c : Cell} {v : V} (ok : Ok K H w σ ρ) (h : Ow K H w (.tm n) c.k c.d v) : Ok K H (w.re (.tm n) (.sl i)) (σ.set i (some v)) (ρ.set i (some c)) := by
  refine ⟨by rw [Env.length_set, List.length_set]; exact ok.len, fun j x q => ?_, fun a h => ?_⟩
  · rcases Env.get_set q with ⟨ej, z⟩ | ⟨hj, z⟩
    · subst ej
      cases z
      have hl : j < σ.length := by
        have := Env.get_lt q
        rw [Env.length_set] at this
        rw [ok.len]; exact this
      exact ⟨v, List.getElem?_set_self hl, h.re (by intro z; cases z)⟩
    · obtain ⟨u, e1, q⟩ := ok.slot j x z
      exact ⟨u, by rw [List.getElem?_set_ne (Ne.symm hj)]; exact e1, q.other (by intro z; cases z) (by intro z; cases z)⟩
  · by_cases z : w a = .tm n
    · exact ok.live a (by rw [z]; intro q; cases q)
    · rw [OM.re_ne z] at h; exact ok.live a h
theorem Ok.storeFz {i : Nat} {d : D} {v : V} (ok : Ok K H w σ ρ) (h : Fz K H w d v) : Ok K H w (σ.set i (some v)) (ρ.set i (some (Cell.fz d))) := by
  refine ⟨by rw [Env.length_set, List.length_set]; exact ok.len, fun j x q => ?_, ok.live⟩
  rcases Env.get_set q with ⟨ej, z⟩ | ⟨hj, z⟩
  · subst ej
    cases z
    have hl : j < σ.length := by
      have := Env.get_lt q
      rw [Env.length_set] at this
      rw [ok.len]; exact this
    exact ⟨v, List.getElem?_set_self hl, .fz h⟩
  · obtain ⟨u, e1, q⟩ := ok.slot j x z
    exact ⟨u, by rw [List.getElem?_set_ne (Ne.symm hj)]; exact e1, q⟩
theorem set_keep {σ : L2.St} {L : List Nat} {i : Nat} {x : Option V} (h : L.contains i = false) : ∀ j ∈ L, (σ.set i x)[j]? = σ[j]? := fun j hj => by
  refine List.getElem?_set_ne ?_
  intro e
  subst e
  have : L.contains i = true := by simpa using hj
  rw [h] at this
  cases this
end

section
variable {X : Cx} {pos : Pos}
/-! ### small statements -/
def mNext : MS := fun _ ρ => .ok (.next, ρ)
theorem ss_pass : SS X (.Pass pos) mNext := ⟨_, ps_pass, fun n σ H w ρ L fl ρ' D ok hm k => by
  cases hm
  exact k σ H w ok Step.refl fun _ _ => rfl⟩
theorem ss_doc {x : Str} {j : Nat} {pos' : Pos} : SS X (.Expr (.Constant (.str x) j pos) pos') mNext := ⟨_, ps_doc, fun n σ H w ρ L fl ρ' D ok hm k => by
  cases hm
  exact k σ H w ok Step.refl fun _ _ => rfl⟩
def mBrk : MS := fun _ ρ => .ok (.brk, ρ)
def mCont : MS := fun _ ρ => .ok (.cont, ρ)
theorem ss_break : SS X (.Break pos) mBrk := ⟨_, ps_break, fun n σ H w ρ L fl ρ' D ok hm k => by
  cases hm
  exact k σ H w ok Step.refl fun _ _ => rfl⟩
theorem ss_continue : SS X (.Continue pos) mCont := ⟨_, ps_continue, fun n σ H w ρ L fl ρ' D ok hm k => by
  cases hm
  exact k σ H w ok Step.refl fun _ _ => rfl⟩
theorem sss_nil : SSs X [] mNext := ⟨_, pss_nil, fun n σ H w ρ L fl ρ' D ok hm k => by
  cases hm
  exact k σ H w ok Step.refl fun _ _ => rfl⟩
def mSeq (a b : MS) : MS := fun L ρ => do
  let (fl, ρ1) ← a L ρ
  match fl with
  | .next => b L ρ1
  | f => R.ok (f, ρ1)
theorem sss_cons {s : Stmt} {rest : List Stmt} {a b : MS} (ha : SS X s a) (hb : SSs X rest b) : SSs X (s :: rest) (mSeq a b) := by
  obtain ⟨t, p, g⟩ := ha.ex
  obtain ⟨u, q, g2⟩ := hb.ex
  refine ⟨_, pss_cons p q, fun n σ H w ρ L fl ρ' D ok hm k => ?_⟩
  obtain ⟨⟨f, ρ1⟩, e1, hm⟩ := R.of_bind hm
  refine g n σ H w ρ L f ρ1 _ ok e1 fun σ1 H1 w1 ok1 st1 l1 => ?_
  cases f with
  | next =>
    refine g2 n σ1 H1 w1 ρ1 L fl ρ' D ok1 hm fun σ2 H2 w2 ok2 st2 l2 => ?_
    exact k σ2 H2 w2 ok2 (st1.trans st2) fun i hi => (l2 i hi).trans (l1 i hi)
  | brk => cases hm; exact k σ1 H1 w1 ok1 st1 l1
  | cont => cases hm; exact k σ1 H1 w1 ok1 st1 l1
  | ret c => cases hm; exact k σ1 H1 w1 ok1 st1 l1
def mExpr (m : AE) : MS := fun _ ρ => do
  let (_, ρ1) ← m ρ
  R.ok (.next, ρ1)
theorem ss_expr {e : Expr} {m : AE} (h : SA X e m) (hs : swapsWith e none pos.line X.env = pure false := by rfl) : SS X (.Expr e pos) (mExpr m) := by
  obtain ⟨t, p, g⟩ := h.ex
  refine ⟨_, ps_expr p hs, fun n σ H w ρ L fl ρ' D ok hm k => ?_⟩
  obtain ⟨⟨s, ρ1⟩, e1, hm⟩ := R.of_bind hm
  cases hm
  exact g n σ H w ρ s _ _ ok e1 fun v H1 w1 ok1 st1 _ => k σ H1 w1 ok1 st1 fun _ _ => rfl
def mRet (m : AE) : MS := fun L ρ => do
  let (s, ρ1) ← m ρ
  let (c, ρ2) ← take L s ρ1
  R.ok (.ret c, ρ2)
theorem ss_ret {e : Expr} {m : AE} (h : SA X e m) : SS X (.Return (some e) pos) (mRet m) := by
  obtain ⟨t, p, g⟩ := h.ex
  refine ⟨_, ps_ret p, fun n σ H w ρ L fl ρ' D ok hm k => ?_⟩
  obtain ⟨⟨s, ρ1⟩, e1, hm⟩ := R.of_bind hm
  obtain ⟨⟨c, ρ2⟩, e2, hm⟩ := R.of_bind hm
  cases hm
  refine g n σ H w ρ s _ _ ok e1 fun v H1 w1 ok1 st1 sa => ?_
  obtain ⟨w2, ok2, st2, ow⟩ := take_ok ok1 sa e2
  exact k σ H1 w2 ok2 (st1.trans (st2 n)) (fun _ _ => rfl) v ow
def mRetN : MS := fun _ ρ => .ok (.ret (Cell.fz .non), ρ)
theorem ss_retN : SS X (.Return none pos) mRetN := ⟨_, ps_retN, fun n σ H w ρ L fl ρ' D ok hm k => by
  cases hm
  exact k σ H w ok Step.refl (fun _ _ => rfl) .non (.fz .non)⟩
def mSet (i : Nat) (m : AE) : MS := fun L ρ => do
  let (s, ρ1) ← m ρ
  let (c, ρ2) ← take L s ρ1
  if L.contains i then R.bad else R.ok (.next, ρ2.set i (some c))
theorem mSet_core {i : Nat} {m : AE} {t : TE} (g : ∀ (n : Nat) (σ : L2.St) (H : Hp) (w : OM) (ρ : Env) (s : Src) (ρ' : Env) (Q : VK), Ok X.K H w σ ρ → m ρ = .ok (s, ρ') →
    (∀ v H' w', Ok X.K H' w' σ ρ' → Step n H w H' w' → SrcAt X.K H' w' σ n s v → Q v H') → t σ H Q) :
    ∀ (n : Nat) (σ : L2.St) (H : Hp) (w : OM) (ρ : Env) (L : List Nat) (fl : Fl) (ρ' : Env) (D : Ends), Ok X.K H w σ ρ → mSet i m L ρ = .ok (fl, ρ') →
    (∀ σ' H' w', Ok X.K H' w' σ' ρ' → Step n H w H' w' → (∀ i ∈ L, σ'[i]? = σ[i]?) → FlP X.K D n H' w' σ' fl) → tAsg t (gName i) D σ H := by
  intro n σ H w ρ L fl ρ' D ok hm k
  obtain ⟨⟨s, ρ1⟩, e1, hm⟩ := R.of_bind hm
  obtain ⟨⟨c, ρ2⟩, e2, hm⟩ := R.of_bind hm
  dsimp only at hm
  split at hm
  · cases hm
  · rename_i hL
    cases hm
    refine g n σ H w ρ s _ _ ok e1 fun v H1 w1 ok1 st1 sa => ?_
    obtain ⟨w2, ok2, st2, ow⟩ := take_ok ok1 sa e2
    exact k _ H1 _ (ok2.store (i := i) ow) ((st1.trans (st2 n)).trans (Step.re not_fixed_tm)) (set_keep (by simpa using hL))
theorem ss_set {i : Nat} {x : Str} {e : Expr} {m : AE} {pos' : Pos} (h : SA X e m) (hN : X.N.Nodup) (hi : X.N[i]? = some x := by rfl) (hx : Loc X.env.scope x := by first | exact Or.inl rfl | exact Or.inr rfl)
    (hs : swapsWith e (some (.Name x pos')) pos.line X.env = pure false := by rfl) (hf : X.fn x = true ∨ X.env.scope.names.lookup x = some .local := by first | exact .inl rfl | exact .inr rfl) : SS X (.Assign [.Name x pos'] e pos) (mSet i m) := by
  obtain ⟨t, p, g⟩ := h.ex
  exact ⟨_, ps_set hN hi hx p hs hf, mSet_core g⟩
def mIf (t : MT) (a b : MS) : MS := fun L ρ => do
  let (c, ρ1) ← t ρ
  if c then a L ρ1 else b L ρ1
theorem ss_if {c : Expr} {a b : List Stmt} {mc : MT} {ma mb : MS} (hc : ST X c mc) (ha : SSs X a ma) (hb : SSs X b mb) : SS X (.If c a b pos) (mIf mc ma mb) := by
  obtain ⟨t, p, g⟩ := hc.ex
  obtain ⟨ta, pa, ga⟩ := ha.ex
  obtain ⟨tb, pb, gb⟩ := hb.ex
  refine ⟨_, ps_if p pa pb, fun n σ H w ρ L fl ρ' D ok hm k => ?_⟩
  obtain ⟨⟨b, ρ1⟩, e1, hm⟩ := R.of_bind hm
  refine g n σ H w ρ b _ _ ok e1 fun H1 w1 ok1 st1 => ?_
  cases b with
  | true => exact iteT (ga n σ H1 w1 ρ1 L fl ρ' D ok1 hm fun σ2 H2 w2 ok2 st2 l2 => k σ2 H2 w2 ok2 (st1.trans st2) l2)
  | false => exact iteF (gb n σ H1 w1 ρ1 L fl ρ' D ok1 hm fun σ2 H2 w2 ok2 st2 l2 => k σ2 H2 w2 ok2 (st1.trans st2) l2)

/-! ### targets -/
abbrev MG := D → List Nat → Env → R Env
structure SG (X : Cx) (tg : Expr) (sl : List Nat) (m : MG) : Prop where
  ex : ∃ g, PG X tg g ∧ ∀ (σ : L2.St) (H : Hp) (w : OM) (ρ : Env) (L : List Nat) (d : D) (v : V) (ρ' : Env) (Q : L2.St → Hp → Prop), Ok X.K H w σ ρ → Fz X.K H w d v → m d L ρ = .ok ρ' →
    (∀ σ', Ok X.K H w σ' ρ' → σ'.length = σ.length → (∀ i, i ∉ sl → σ'[i]? = σ[i]?) → (∀ i ∈ L, σ'[i]? = σ[i]?) → Q σ' H) → g v σ H Q
structure SGs (X : Cx) (tgs : List Expr) (sl : List Nat) (m : List D → List Nat → Env → R Env) : Prop where
  ex : ∃ g, PGs X tgs g ∧ ∀ (σ : L2.St) (H : Hp) (w : OM) (ρ : Env) (L : List Nat) (ds : List D) (vs : List V) (ρ' : Env) (Q : L2.St → Hp → Prop), Ok X.K H w σ ρ → FzL X.K H w ds vs → m ds L ρ = .ok ρ' →
    (∀ σ', Ok X.K H w σ' ρ' → σ'.length = σ.length → (∀ i, i ∉ sl → σ'[i]? = σ[i]?) → (∀ i ∈ L, σ'[i]? = σ[i]?) → Q σ' H) → g vs σ H Q
def gN (i : Nat) : MG := fun d L ρ => if L.contains i then .bad else .ok (ρ.set i (some (Cell.fz d)))
theorem sg_name {i : Nat} {x : Str} (hN : X.N.Nodup) (hi : X.N[i]? = some x := by rfl) (hx : Loc X.env.scope x := by first | exact Or.inl rfl | exact Or.inr rfl)
    (hf : X.fn x = true ∨ X.env.scope.names.lookup x = some .local := by first | exact .inl rfl | exact .inr rfl) : SG X (.Name x pos) [i] (gN i) := by
  refine ⟨_, pg_name hN hi hx hf, fun σ H w ρ L d v ρ' Q ok h hm k => ?_⟩
  unfold gN at hm
  split at hm
  · cases hm
  · rename_i hL
    cases hm
    exact k _ (ok.storeFz h) List.length_set (fun j hj => List.getElem?_set_ne (by intro e; exact hj (by simp [e]))) (set_keep (by simpa using hL))
def gsNil : List D → List Nat → Env → R Env := fun ds _ ρ => match ds with
  | [] => .ok ρ
  | _ => .bad
def gsCons (g : MG) (gs : List D → List Nat → Env → R Env) : List D → List Nat → Env → R Env := fun ds L ρ => match ds with
  | d :: r => do
    let ρ1 ← g d L ρ
    gs r L ρ1
  | [] => .bad
theorem sgs_nil : SGs X [] [] gsNil := ⟨_, pgs_nil, fun σ H w ρ L ds vs ρ' Q ok h hm k => by
  cases h with
  | nil => cases hm; exact ⟨rfl, k σ ok rfl (fun _ _ => rfl) fun _ _ => rfl⟩
  | cons _ _ => cases hm⟩
theorem sgs_cons {e : Expr} {es : List Expr} {s1 s2 : List Nat} {g : MG} {gs : List D → List Nat → Env → R Env} (h1 : SG X e s1 g) (h2 : SGs X es s2 gs)
    (hs : (assignEach (e :: es) X.env).map (·.2) = assign e X.env :: (assignEach es X.env).map (·.2) := by rfl) : SGs X (e :: es) (s1 ++ s2) (gsCons g gs) := by
  obtain ⟨t, p, f⟩ := h1.ex
  obtain ⟨u, q, f2⟩ := h2.ex
  refine ⟨_, pgs_cons p q hs, fun σ H w ρ L ds vs ρ' Q ok h hm k => ?_⟩
  cases h with
  | nil => cases hm
  | cons h t =>
    obtain ⟨ρ1, e1, hm⟩ := R.of_bind hm
    refine ⟨_, _, rfl, f σ H w ρ L _ _ _ _ ok h e1 fun σ1 ok1 n1 a1 l1 => ?_⟩
    refine f2 σ1 H w ρ1 L _ _ ρ' _ ok1 t hm fun σ2 ok2 n2 a2 l2 => ?_
    exact k σ2 ok2 (n2.trans n1) (fun i hi => (a2 i fun z => hi (List.mem_append_right _ z)).trans (a1 i fun z => hi (List.mem_append_left _ z))) fun i hi => (l2 i hi).trans (l1 i hi)
def gT (n : Nat) (gs : List D → List Nat → Env → R Env) : MG := fun d L ρ => match d with
  | .tup ds => if ds.length = n then gs ds L ρ else .bad
  | _ => .bad
theorem sg_tup {es : List Expr} {k n : Nat} {sl : List Nat} {gs : List D → List Nat → Env → R Env} (hc : X.calm = true) (h : SGs X es sl gs) (hn : (assignEach es X.env).length = n := by rfl) (hst : (assignEach es X.env).findIdx? (·.1) = none := by rfl) :
    SG X (.Tuple es k pos) sl (gT n gs) := by
  obtain ⟨t, p, f⟩ := h.ex
  refine ⟨_, pg_tup hc p hn hst, fun σ H w ρ L d v ρ' Q ok h hm k => ?_⟩
  unfold gT at hm
  split at hm
  · split at hm
    · rename_i hl
      cases h with
      | tup ta fa => exact ⟨_, _, rfl, ta.sq, by rw [← fa.length]; exact hl, f σ H w ρ L _ _ ρ' Q ok fa hm k⟩
    · cases hm
  · cases hm
/-- target = value, the value frozen -/
def mAsg (g : MG) (m : AE) : MS := fun L ρ => do
  let (s, ρ1) ← m ρ
  let (c, ρ2) ← esc s ρ1
  let ρ3 ← g c.d L ρ2
  R.ok (.next, ρ3)
theorem ss_asg {tg e : Expr} {sl : List Nat} {g : MG} {m : AE} (he : SA X e m) (hg : SG X tg sl g) (hs : swapsWithSole [tg] e pos.line X.env = pure false := by rfl) (hw : swappedStores [tg] e X.env = pure none := by rfl)
    (h1 : (assignEach [tg] X.env).map (·.2) = [assign tg X.env] := by rfl) : SS X (.Assign [tg] e pos) (mAsg g m) := by
  obtain ⟨t, p, f⟩ := he.ex
  obtain ⟨u, q, f2⟩ := hg.ex
  refine ⟨_, ps_asg p q hs hw h1, fun n σ H w ρ L fl ρ' D ok hm k => ?_⟩
  obtain ⟨⟨s, ρ1⟩, e1, hm⟩ := R.of_bind hm
  obtain ⟨⟨c, ρ2⟩, e2, hm⟩ := R.of_bind hm
  obtain ⟨ρ3, e3, hm⟩ := R.of_bind hm
  cases hm
  refine f n σ H w ρ s _ _ ok e1 fun v H1 w1 ok1 st1 sa => ?_
  obtain ⟨w2, ok2, st2, ow, _⟩ := esc_ok ok1 sa e2
  have ok3 : Ok X.K H1 (w2.re (.tm n) .no) σ ρ2 := ok2.re (by intro z; cases z) (by intro i z; cases z)
  refine f2 σ H1 _ ρ2 L c.d v _ _ ok3 (ow.freeze (by intro z; cases z)) e3 fun σ' ok' _ _ l' => ?_
  exact k σ' H1 _ ok' ((st1.trans (st2 n)).trans (Step.re not_fixed_tm)) l'

/-! ### loops -/
structure ItD where
  items : List D
  chk : Option Nat
def chkOk (it : ItD) (ρ : Env) : Bool := match it.chk with
  | none => true
  | some i => match ρ.get i with
    | some c => decide (c.k ≤ 1) && decide (c.d = .lst it.items)
    | none => false
abbrev MI := Env → R (ItD × Env)
/-- what an iterator does, as long as its list stands -/
def ItOk (K : PySem.W.Frag) (J : It) (n : Nat) (it : ItD) (σ : L2.St) (H : Hp) (w : OM) : Prop :=
  ∀ (H2 : Hp) (w2 : OM) (σ2 : L2.St) (ρ2 : Env) (j : Nat), Ok K H2 w2 σ2 ρ2 → Step n H w H2 w2 → (∀ i, it.chk = some i → σ2[i]? = σ[i]?) → chkOk it ρ2 = true →
    (∀ d, it.items[j]? = some d → J.go j H2 ∧ ∀ x H3, J.yld j H2 x H3 → ∃ w3, (∀ (σ3 : L2.St) (ρ3 : Env), Ok K H2 w2 σ3 ρ3 → Ok K H3 w3 σ3 ρ3) ∧ (∀ m, Step m H2 w2 H3 w3) ∧ Fz K H3 w3 d x) ∧ (it.items.length ≤ j → J.stop j H2)
structure SI (X : Cx) (tg iter : Expr) (m : MI) : Prop where
  ex : ∃ wi, PI X tg iter wi ∧ ∀ (n : Nat) (σ : L2.St) (H : Hp) (w : OM) (ρ : Env) (it : ItD) (ρ' : Env) (Q : It → Hp → Prop), Ok X.K H w σ ρ → m ρ = .ok (it, ρ') →
    (∀ J H' w', Ok X.K H' w' σ ρ' → Step n H w H' w' → chkOk it ρ' = true → ItOk X.K J n it σ H' w' → Q J H') → wi σ H Q
def loopF (it : ItD) (g : MG) (body : MS) (L : List Nat) : List D → Env → R (Fl × Env)
  | [], ρ => .ok (.next, ρ)
  | d :: r, ρ => do
    let ρ1 ← g d L ρ
    let (fl, ρ2) ← body L ρ1
    match fl with
    | .ret c => R.ok (.ret c, ρ2)
    | .brk => R.ok (.next, ρ2)
    | _ => if chkOk it ρ2 then loopF it g body L r ρ2 else R.bad
def mFor (mi : MI) (g : MG) (body : MS) : MS := fun L ρ => do
  let (it, ρ1) ← mi ρ
  loopF it g body (match it.chk with | some i => i :: L | none => L) it.items ρ1
theorem ss_for {tg iter : Expr} {body : List Stmt} {mi : MI} {g : MG} {mb : MS} {sl : List Nat} (hp : PassesOwn (model X.prog X.w) X.A X.env X.xe) (hc : X.calm = true) (hi : SI X tg iter mi) (hg : SG X tg sl g) (hb : SSs X body mb)
    (hs : ∀ x, foldedSetIterable iter X.env x = pure x := by intro _; rfl) : SS X (.For tg iter body [] pos) (mFor mi g mb) := by
  obtain ⟨wi, p, f⟩ := hi.ex
  obtain ⟨tg', q, f2⟩ := hg.ex
  obtain ⟨tb, r, f3⟩ := hb.ex
  refine ⟨_, ps_for hp hc p q r hs, fun n σ H w ρ L fl ρ' D ok hm k => ?_⟩
  obtain ⟨⟨it, ρ1⟩, e1, hm⟩ := R.of_bind hm
  dsimp only at hm e1
  generalize hL : (match it.chk with | some i => i :: L | none => L) = L' at hm
  have hsub : ∀ i ∈ L, i ∈ L' := fun i hi => by
    subst hL
    cases it.chk with
    | none => exact hi
    | some j => exact List.mem_cons_of_mem _ hi
  have hchk : ∀ i, it.chk = some i → i ∈ L' := fun i hi => by
    subst hL
    rw [hi]
    exact List.mem_cons_self ..
  refine f n σ H w ρ it ρ1 _ ok e1 fun J H1 w1 ok1 st1 c1 io => ?_
  refine ⟨fun i m σ2 H2 => m = it.items.length - i ∧ i ≤ it.items.length ∧ ∃ w2 ρ2, Ok X.K H2 w2 σ2 ρ2 ∧ Step n H1 w1 H2 w2 ∧ (∀ j ∈ L', σ2[j]? = σ[j]?) ∧ chkOk it ρ2 = true ∧ loopF it g mb L' (it.items.drop i) ρ2 = .ok (fl, ρ'),
    ⟨_, rfl, Nat.zero_le _, w1, ρ1, ok1, Step.refl, fun _ _ => rfl, c1, hm⟩, ?_⟩
  rintro i m σ2 H2 ⟨rfl, hle, w2, ρ2, ok2, st2, l2, c2, e2⟩
  obtain ⟨go, stop⟩ := io H2 w2 σ2 ρ2 i ok2 st2 (fun j hj => l2 j (hchk j hj)) c2
  by_cases hlt : i < it.items.length
  · obtain ⟨hgo, hy⟩ := go _ (List.getElem?_eq_getElem hlt)
    refine .inr ⟨hgo, fun σ4 H4 => ∃ w4 ρ4, Ok X.K H4 w4 σ4 ρ4 ∧ Step n H1 w1 H4 w4 ∧ (∀ j ∈ L', σ4[j]? = σ[j]?) ∧ chkOk it ρ4 = true ∧ loopF it g mb L' (it.items.drop (i + 1)) ρ4 = .ok (fl, ρ'), ?_, ?_⟩
    · rintro σ4 H4 h4
      exact ⟨it.items.length - (i + 1), by omega, rfl, hlt, h4⟩
    · intro x H3 y
      obtain ⟨w3, ok3f, st3f, fz⟩ := hy x H3 y
      have ok3 := ok3f σ2 ρ2 ok2
      have st3 := st2.trans (st3f n)
      rw [List.drop_eq_getElem_cons hlt] at e2
      obtain ⟨ρ3, e3, e2⟩ := R.of_bind e2
      obtain ⟨⟨fb, ρ4⟩, e4, e2⟩ := R.of_bind e2
      refine f2 σ2 H3 w3 ρ2 L' _ x ρ3 _ ok3 fz e3 fun σ3 ok3' _ _ l3 => ?_
      refine f3 n σ3 H3 w3 ρ3 L' fb ρ4 _ ok3' e4 fun σ4 H4 w4 ok4 st4 l4 => ?_
      have ll : ∀ j ∈ L', σ4[j]? = σ[j]? := fun j hj => (l4 j hj).trans ((l3 j hj).trans (l2 j hj))
      have st14 := st3.trans st4
      have again : (if chkOk it ρ4 = true then loopF it g mb L' (it.items.drop (i + 1)) ρ4 else R.bad) = .ok (fl, ρ') →
          ∃ w4 ρ4, Ok X.K H4 w4 σ4 ρ4 ∧ Step n H1 w1 H4 w4 ∧ (∀ j ∈ L', σ4[j]? = σ[j]?) ∧ chkOk it ρ4 = true ∧ loopF it g mb L' (it.items.drop (i + 1)) ρ4 = .ok (fl, ρ') := fun z => by
        split at z
        · exact ⟨w4, ρ4, ok4, st14, ll, by assumption, z⟩
        · cases z
      cases fb with
      | next => exact again e2
      | cont => exact again e2
      | brk =>
        cases e2
        exact k σ4 H4 w4 ok4 (st1.trans st14) fun j hj => ll j (hsub j hj)
      | ret c =>
        cases e2
        exact k σ4 H4 w4 ok4 (st1.trans st14) fun j hj => ll j (hsub j hj)
  · have e : i = it.items.length := by omega
    subst e
    rw [List.drop_length] at e2
    cases e2
    exact .inl ⟨stop (Nat.le_refl _), k σ2 H2 w2 ok2 (st1.trans st2) fun j hj => l2 j (hsub j hj)⟩
def loopW (t : MT) (body : MS) (L : List Nat) : Nat → Env → R (Fl × Env)
  | 0, _ => .bad
  | m + 1, ρ => do
    let (b, ρ1) ← t ρ
    if b then do
      let (fl, ρ2) ← body L ρ1
      match fl with
      | .ret c => R.ok (.ret c, ρ2)
      | .brk => R.ok (.next, ρ2)
      | _ => loopW t body L m ρ2
    else R.ok (.next, ρ1)
def mWhile (fuel : Nat) (t : MT) (body : MS) : MS := fun L ρ => loopW t body L fuel ρ
theorem ss_while {c : Expr} {body : List Stmt} {mc : MT} {mb : MS} (fuel : Nat) (hp : PassesOwn (model X.prog X.w) X.A X.env X.xe) (hc : ST X c mc) (hb : SSs X body mb) : SS X (.While c body [] pos) (mWhile fuel mc mb) := by
  obtain ⟨tc, p, f⟩ := hc.ex
  obtain ⟨tb, r, f3⟩ := hb.ex
  refine ⟨_, ps_while hp p r, fun n σ H w ρ L fl ρ' D ok hm k => ?_⟩
  refine ⟨fun m σ2 H2 => ∃ w2 ρ2, Ok X.K H2 w2 σ2 ρ2 ∧ Step n H w H2 w2 ∧ (∀ j ∈ L, σ2[j]? = σ[j]?) ∧ loopW mc mb L m ρ2 = .ok (fl, ρ'), ⟨fuel, w, ρ, ok, Step.refl, fun _ _ => rfl, hm⟩, ?_⟩
  rintro m σ2 H2 ⟨w2, ρ2, ok2, st2, l2, e2⟩
  cases m with
  | zero => cases e2
  | succ m =>
    obtain ⟨⟨b, ρ3⟩, e3, e2⟩ := R.of_bind e2
    refine f n σ2 H2 w2 ρ2 b ρ3 _ ok2 e3 fun H3 w3 ok3 st3 => ?_
    cases b with
    | false =>
      cases e2
      exact iteF (k σ2 H3 w3 ok3 (st2.trans st3) l2)
    | true =>
      obtain ⟨⟨fb, ρ4⟩, e4, e2⟩ := R.of_bind (show (mb L ρ3 >>= _) = _ from e2)
      refine iteT ⟨fun σ4 H4 => ∃ w4 ρ4, Ok X.K H4 w4 σ4 ρ4 ∧ Step n H w H4 w4 ∧ (∀ j ∈ L, σ4[j]? = σ[j]?) ∧ loopW mc mb L m ρ4 = .ok (fl, ρ'), fun σ4 H4 h4 => ⟨m, Nat.lt_succ_self m, h4⟩, ?_⟩
      refine f3 n σ2 H3 w3 ρ3 L fb ρ4 _ ok3 e4 fun σ4 H4 w4 ok4 st4 l4 => ?_
      have ll : ∀ j ∈ L, σ4[j]? = σ[j]? := fun j hj => (l4 j hj).trans (l2 j hj)
      have st14 := (st2.trans st3).trans st4
      cases fb with
      | next => exact ⟨w4, ρ4, ok4, st14, ll, e2⟩
      | cont => exact ⟨w4, ρ4, ok4, st14, ll, e2⟩
      | brk =>
        cases e2
        exact k σ4 H4 w4 ok4 st14 ll
      | ret c =>
        cases e2
        exact k σ4 H4 w4 ok4 st14 ll
end
end Z

/-! Z: what is walked, comprehensions, calls of defs, methods. -/
namespace Z
open PySem PySem.Spec PyProof.Rows L2

/-! ### what is walked -/
section
variable {X : Cx} {tg : Expr}
def iSeq (K : PySem.W.Frag) (tl : TE) : TI := fun σ H R => tl σ H fun x H1 => (∃ a, x = .ref a ∧ (∃ xs, SqL K H1 a xs) ∧ R (Itl K a) H1) ∨ (∃ a, x = .ref a ∧ (∃ xs, SqT K H1 a xs) ∧ R (Itt K a) H1) ∨ ∃ z, x = .str z ∧ R (Its z) H1
theorem pi_seq {l : Expr} {tl : TE} (hl : PE X l tl) : PI X tg l (iSeq X.K tl) := by
  refine ⟨fun pins s σ H R I h => ?_⟩
  refine thn (hl.run pins s σ H _ I h) fun v s1 ⟨x, H1, I1, r1, q1⟩ => ?_
  rcases q1 with ⟨a, e, ⟨xs, hq⟩, q⟩ | ⟨a, e, ⟨xs, hq⟩, q⟩ | ⟨z, e, q⟩
  · subst e
    cases r1
    obtain ⟨its, rv, p, hz⟩ := I1.list hq
    refine wpAny_pyIter_list p.isList ?_
    refine ⟨s1.heap.objs.size, [s1.heap.objs.size], _, _, H1, rfl, I1.kept (t' := s1.toks) fun b o e => Heap.get?_push_of_some _ e, turn_list a _, ⟨_, Heap.get?_push_size _ rfl, rfl, rfl⟩, fun b hb => ?_, q⟩
    have e : b = s1.heap.objs.size := by simpa using hb
    subst e
    exact I1.fpOk (Nat.le_refl _) (I1.hok.fresh (Nat.le_refl _))
  · subst e
    cases r1
    obtain ⟨its, rv, p, hz⟩ := I1.tuple hq
    refine wpAny_pyIter_tuple (show s1.heap.IsTuple a its.toArray from p) ?_
    refine ⟨s1.heap.objs.size, [s1.heap.objs.size], _, _, H1, rfl, I1.kept (t' := s1.toks) fun b o e => Heap.get?_push_of_some _ e, turn_tuple a _, ⟨_, Heap.get?_push_size _ rfl, rfl, rfl⟩, fun b hb => ?_, q⟩
    have e : b = s1.heap.objs.size := by simpa using hb
    subst e
    exact I1.fpOk (Nat.le_refl _) (I1.hok.fresh (Nat.le_refl _))
  · subst e
    obtain ⟨t, rfl⟩ := r1
    cases ha : z.cps.all (· < 128)
    · exact wpAny_pyIter_wide ha (pi_one (tk := s1.toks) I1 _ (turn_str _ z t "str_iterator" (.inr rfl)) ⟨_, Heap.get?_push_size _ rfl, rfl, rfl⟩ q)
    · exact wpAny_pyIter_ascii ha (pi_one (tk := s1.toks) I1 _ (turn_str _ z t "str_ascii_iterator" (.inl rfl)) ⟨_, Heap.get?_push_size _ rfl, rfl, rfl⟩ q)
def itemsOf : D → Option (List D)
  | .tup l => some l
  | .lst l => some l
  | .scr l => some l
  | .str z => some (z.cps.toList.map fun c => .str ⟨#[c]⟩)
  | _ => none
def mItems (a : AE) : MI := fun ρ => do
  let (s, ρ1) ← a ρ
  match s with
  | .v c => match itemsOf c.d with
    | some l => R.ok (⟨l, none⟩, ρ1)
    | none => R.bad
  | .s i => match ρ1.get i with
    | some ⟨d, 0⟩ => match itemsOf d with
      | some l => R.ok (⟨l, none⟩, ρ1)
      | none => R.bad
    | some ⟨.lst l, 1⟩ => R.ok (⟨l, some i⟩, ρ1)
    | _ => R.bad
theorem Ok.id_step {K : PySem.W.Frag} {H : Hp} {w : OM} : ∃ w3, (∀ (σ3 : L2.St) (ρ3 : Env), Ok K H w σ3 ρ3 → Ok K H w3 σ3 ρ3) ∧ (∀ m, Step m H w H w3) ∧ w3 = w := ⟨w, fun _ _ h => h, fun _ => Step.refl, rfl⟩
/-- a frozen datum is walked -/
theorem it_frozen {K : PySem.W.Frag} {n : Nat} {σ : L2.St} {H : Hp} {w : OM} {d : D} {v : V} {l : List D} (h : Fz K H w d v) (e : itemsOf d = some l) :
    (∃ a, v = .ref a ∧ (∃ xs, SqL K H a xs) ∧ ItOk K (Itl K a) n ⟨l, none⟩ σ H w) ∨ (∃ a, v = .ref a ∧ (∃ xs, SqT K H a xs) ∧ ItOk K (Itt K a) n ⟨l, none⟩ σ H w) ∨ ∃ z, v = .str z ∧ ItOk K (Its z) n ⟨l, none⟩ σ H w := by
  have onL : ∀ {a : Addr} {vs : List V}, (∀ (H2 : Hp) (w2 : OM), Step n H w H2 w2 → SqL K H2 a vs ∧ FzL K H2 w2 l vs) → ItOk K (Itl K a) n ⟨l, none⟩ σ H w := fun {a vs} st H2 w2 σ2 ρ2 j ok2 st2 _ _ => by
    obtain ⟨hs, fs⟩ := st H2 w2 st2
    refine ⟨fun d hd => ?_, fun hle => ⟨vs, hs, by rw [← fs.length]; exact hle⟩⟩
    obtain ⟨x, hx, fx⟩ := fs.get hd
    refine ⟨⟨vs, x, hs, hx⟩, fun y H3 ⟨e1, e2⟩ => ?_⟩
    subst e1
    have : y = x := by have := e2 vs hs; rw [hx] at this; exact (Option.some.inj this).symm
    subst this
    exact ⟨w2, fun _ _ h => h, fun _ => Step.refl, fx⟩
  have onT : ∀ {a : Addr} {vs : List V}, (∀ (H2 : Hp) (w2 : OM), Step n H w H2 w2 → SqT K H2 a vs ∧ FzL K H2 w2 l vs) → ItOk K (Itt K a) n ⟨l, none⟩ σ H w := fun {a vs} st H2 w2 σ2 ρ2 j ok2 st2 _ _ => by
    obtain ⟨hs, fs⟩ := st H2 w2 st2
    refine ⟨fun d hd => ?_, fun hle => ⟨vs, hs, by rw [← fs.length]; exact hle⟩⟩
    obtain ⟨x, hx, fx⟩ := fs.get hd
    refine ⟨⟨vs, x, hs, hx⟩, fun y H3 ⟨e1, e2⟩ => ?_⟩
    subst e1
    have : y = x := by have := e2 vs hs; rw [hx] at this; exact (Option.some.inj this).symm
    subst this
    exact ⟨w2, fun _ _ h => h, fun _ => Step.refl, fx⟩
  cases h with
  | tup ta fa => cases e; exact .inr (.inl ⟨_, rfl, ⟨_, ta.sq⟩, onT fun H2 w2 st => ⟨(ta.step (st.kp (o := .no) (.inl rfl))).sq, fa.step (st.kp (o := .no) (.inl rfl))⟩⟩)
  | lst ta na fa => cases e; exact .inl ⟨_, rfl, ⟨_, .inl (.inl ta)⟩, onL fun H2 w2 st => ⟨.inl (.inl (st _ _ ta (by rw [na]; exact .inl rfl)).1), fa.step (st.kp (o := .no) (.inl rfl))⟩⟩
  | scr ta fa => cases e; exact .inl ⟨_, rfl, ⟨_, ta.sq⟩, onL fun H2 w2 st => ⟨(ta.step (st.kp (o := .no) (.inl rfl))).sq, fa.step (st.kp (o := .no) (.inl rfl))⟩⟩
  | str z =>
    cases e
    refine .inr (.inr ⟨z, rfl, fun H2 w2 σ2 ρ2 j ok2 st2 _ _ => ⟨fun d hd => ?_, fun hle => ?_⟩⟩)
    · simp only [List.getElem?_map, Option.map_eq_some_iff] at hd
      obtain ⟨c, hc, rfl⟩ := hd
      have hj : z.cps[j]? = some c := by rw [← Array.getElem?_toList]; exact hc
      refine ⟨(Array.getElem?_eq_some_iff.mp hj).1, fun y H3 ⟨e1, c', e2, e3⟩ => ?_⟩
      subst e1 e3
      rw [hj] at e2
      cases e2
      exact ⟨w2, fun _ _ h => h, fun _ => Step.refl, .str _⟩
    · show z.cps.size ≤ j
      simpa using hle
  | _ => cases e
theorem si_seq {e : Expr} {m : AE} (he : SA X e m) : SI X tg e (mItems m) := by
  obtain ⟨t, p, g⟩ := he.ex
  refine ⟨_, pi_seq p, fun n σ H w ρ it ρ' Q ok hm k => ?_⟩
  obtain ⟨⟨s, ρ1⟩, e1, hm⟩ := R.of_bind hm
  dsimp only at hm
  cases s with
  | v c =>
    dsimp only at hm
    split at hm
    · rename_i l hl
      cases hm
      refine g n σ H w ρ _ _ _ ok e1 fun v H1 w1 ok1 st1 sa => ?_
      have sa : Ow X.K H1 w1 (.tm n) c.k c.d v := sa
      have ok2 : Ok X.K H1 (w1.re (.tm n) .no) σ _ := ok1.re (by intro z; cases z) (by intro i z; cases z)
      have st2 : Step n H w H1 (w1.re (.tm n) .no) := st1.trans (Step.re not_fixed_tm)
      rcases it_frozen (n := n) (σ := σ) (sa.freeze (by intro z; cases z)) hl with ⟨a, e, hq, io⟩ | ⟨a, e, hq, io⟩ | ⟨z, e, io⟩
      · exact .inl ⟨a, e, hq, k _ H1 _ ok2 st2 rfl io⟩
      · exact .inr (.inl ⟨a, e, hq, k _ H1 _ ok2 st2 rfl io⟩)
      · exact .inr (.inr ⟨z, e, k _ H1 _ ok2 st2 rfl io⟩)
    · cases hm
  | s i =>
    dsimp only at hm
    split at hm
    · rename_i d hd
      split at hm
      · rename_i l hl
        cases hm
        refine g n σ H w ρ _ _ _ ok e1 fun v H1 w1 ok1 st1 sa => ?_
        have sa : σ[i]? = some (some v) := sa
        obtain ⟨u, eu, ow⟩ := ok1.slot i _ hd
        rw [sa] at eu
        cases eu
        have fz : Fz X.K H1 w1 d v := by cases ow with | fz h => exact h
        rcases it_frozen (n := n) (σ := σ) fz hl with ⟨a, e, hq, io⟩ | ⟨a, e, hq, io⟩ | ⟨z, e, io⟩
        · exact .inl ⟨a, e, hq, k _ H1 _ ok1 st1 rfl io⟩
        · exact .inr (.inl ⟨a, e, hq, k _ H1 _ ok1 st1 rfl io⟩)
        · exact .inr (.inr ⟨z, e, k _ H1 _ ok1 st1 rfl io⟩)
      · cases hm
    · rename_i l hd
      cases hm
      refine g n σ H w ρ _ _ _ ok e1 fun v H1 w1 ok1 st1 sa => ?_
      have sa : σ[i]? = some (some v) := sa
      obtain ⟨u, eu, ow⟩ := ok1.slot i _ hd
      rw [sa] at eu
      cases eu
      obtain ⟨a, vs, rfl, hq, _, _⟩ := ow_lst ow
      refine .inl ⟨a, rfl, ⟨vs, .inl (.inl hq)⟩, k _ H1 _ ok1 st1 (by unfold chkOk; simp [hd]) fun H2 w2 σ2 ρ2 j ok2 st2 lk ck => ?_⟩
      have e3 := lk i rfl
      unfold chkOk at ck
      dsimp only at ck
      split at ck
      · rename_i c2 hc2
        rw [Bool.and_eq_true] at ck
        have k1 : c2.k ≤ 1 := of_decide_eq_true ck.1
        have d1 : c2.d = .lst l := of_decide_eq_true ck.2
        obtain ⟨u2, eu2, ow2⟩ := ok2.slot i _ hc2
        rw [e3, sa] at eu2
        cases eu2
        rw [d1] at ow2
        obtain ⟨a2, ws, ea, hq2, _, f2⟩ := ow_lst ow2
        cases ea
        have fs := f2 k1
        refine ⟨fun d hd => ?_, fun hle => ⟨ws, .inl (.inl hq2), by rw [← fs.length]; exact hle⟩⟩
        obtain ⟨x, hx, fx⟩ := fs.get hd
        refine ⟨⟨ws, x, .inl (.inl hq2), hx⟩, fun y H3 ⟨e1, e2⟩ => ?_⟩
        subst e1
        have : y = x := by have := e2 ws (.inl (.inl hq2)); rw [hx] at this; exact (Option.some.inj this).symm
        subst this
        exact ⟨w2, fun _ _ h => h, fun _ => Step.refl, fx⟩
      · cases ck
    · cases hm
/-- the ints a .. b - 1 -/
def rgD (a b : Int) : List D := (List.range (b - a).toNat).map fun i => D.int (a + (i : Nat))
theorem rgD_length (a b : Int) : (rgD a b).length = (b - a).toNat := by unfold rgD; rw [List.length_map, List.length_range]
theorem it_range {K : PySem.W.Frag} {n : Nat} {σ : L2.St} {H : Hp} {w : OM} (a b : Int) : ItOk K (Itr a (b - a).toNat) n ⟨rgD a b, none⟩ σ H w := fun H2 w2 σ2 ρ2 j ok2 st2 _ _ => by
  refine ⟨fun d hd => ?_, fun hle => by rw [rgD_length] at hle; exact hle⟩
  unfold rgD at hd
  simp only [List.getElem?_map, Option.map_eq_some_iff] at hd
  obtain ⟨i, hi, rfl⟩ := hd
  rw [List.getElem?_eq_some_iff] at hi
  obtain ⟨hj, hi⟩ := hi
  rw [List.length_range] at hj
  rw [List.getElem_range] at hi
  subst hi
  refine ⟨hj, fun x H3 ⟨e1, e2⟩ => ?_⟩
  subst e1 e2
  exact ⟨w2, fun _ _ h => h, fun _ => Step.refl, .int _⟩
def rgB (a b : Int) : Bool := decide (-(2 ^ 62) ≤ a ∧ a < 2 ^ 62 ∧ -(2 ^ 62) ≤ b ∧ b < 2 ^ 62)
def mRange1 (a : AE) : MI := fun ρ => do
  let (s, ρ1) ← a ρ
  match s.cell ρ1 with
  | some ⟨.int j, _⟩ => if rgB 0 j then R.ok (⟨rgD 0 j, none⟩, ρ1) else R.bad
  | _ => R.bad
def mRange2 (a b : AE) : MI := fun ρ => do
  let (s, ρ1) ← a ρ
  let (u, ρ2) ← b ρ1
  match s.cell ρ2, u.cell ρ2 with
  | some ⟨.int i, _⟩, some ⟨.int j, _⟩ => if rgB i j then R.ok (⟨rgD i j, none⟩, ρ2) else R.bad
  | _, _ => R.bad
theorem si_range1 {a : Expr} {m : AE} {p pos : Pos} (hm : X.mg "range" = none) (ha : SA X a m) (hg : Gl X "range" := by rfl) (hs : starEach [a] X.env = [(false, eval a X.env)] := by rfl) (he : starEach [a] X.env = (false, eval a X.env) :: starEach [] X.env := by rfl) :
    SI X tg (.Call (.Name "range" p) [a] [] pos) (mRange1 m) := by
  obtain ⟨t, q, g⟩ := ha.ex
  refine ⟨_, pi_range1 hg hm (pa_cons q pa_nil he) hs, fun n σ H w ρ it ρ' Q ok hm k => ?_⟩
  obtain ⟨⟨s, ρ1⟩, e1, hm⟩ := R.of_bind hm
  dsimp only at hm
  split at hm
  · rename_i j _ hc
    split at hm
    · rename_i hb
      cases hm
      refine g n σ H w ρ s _ _ ok e1 fun v H1 w1 ok1 st1 sa => ?_
      obtain ⟨o, _, h1⟩ := sa.cell ok1 hc
      cases ow_int h1
      have hb := of_decide_eq_true hb
      refine ⟨j, rfl, hb.2.2.1, hb.2.2.2, k _ H1 w1 ok1 st1 rfl ?_⟩
      have := it_range (K := X.K) (n := n) (σ := σ) (H := H1) (w := w1) 0 j
      rw [Int.sub_zero] at this
      exact this
    · cases hm
  · cases hm
theorem si_range2 {a b : Expr} {m m2 : AE} {p pos : Pos} (hm : X.mg "range" = none) (ha : SA X a m) (hb : SA X b m2) (hg : Gl X "range" := by rfl) (hs : starEach [a, b] X.env = [(false, eval a X.env), (false, eval b X.env)] := by rfl) (hs2 : starEach [b] X.env = [(false, eval b X.env)] := by rfl)
    (he : starEach [a, b] X.env = (false, eval a X.env) :: starEach [b] X.env := by rfl) (he2 : starEach [b] X.env = (false, eval b X.env) :: starEach [] X.env := by rfl) :
    SI X tg (.Call (.Name "range" p) [a, b] [] pos) (mRange2 m m2) := by
  obtain ⟨t, q, g⟩ := ha.ex
  obtain ⟨t2, q2, g2⟩ := hb.ex
  refine ⟨_, pi_range2 hg hm (pa_cons q (pa_cons q2 pa_nil he2) he) hs hs2, fun n σ H w ρ it ρ' Q ok hm k => ?_⟩
  obtain ⟨⟨s, ρ1⟩, e1, hm⟩ := R.of_bind hm
  obtain ⟨⟨u, ρ2⟩, e2, hm⟩ := R.of_bind hm
  dsimp only at hm e2
  split at hm
  · rename_i i _ j _ hc hd
    split at hm
    · rename_i hb
      cases hm
      refine g n σ H w ρ s _ _ ok e1 fun v H1 w1 ok1 st1 sa => ?_
      refine g2 (n + 1) σ H1 w1 ρ1 u _ _ ok1 e2 fun v2 H2 w2 ok2 st2 sa2 => ?_
      obtain ⟨o, _, h1⟩ := (sa.step st2 (Nat.lt_succ_self n)).cell ok2 hc
      obtain ⟨o2, _, h2⟩ := sa2.cell ok2 hd
      cases ow_int h1
      cases ow_int h2
      have hb := of_decide_eq_true hb
      exact ⟨i, j, rfl, hb, k _ H2 w2 ok2 (st1.trans (st2.mono (Nat.le_succ n))) rfl (it_range i j)⟩
    · cases hm
  · cases hm

/-! ### list(range(..)), tuple(range(..)) -/
structure SRg (X : Cx) (e : Expr) (m : Env → R ((Int × Int) × Env)) : Prop where
  ex : ∃ t, PRg X e t ∧ ∀ (n : Nat) (σ : L2.St) (H : Hp) (w : OM) (ρ : Env) (a b : Int) (ρ' : Env) (Q : Int → Int → Hp → Prop), Ok X.K H w σ ρ → m ρ = .ok ((a, b), ρ') →
    (∀ H' w', Ok X.K H' w' σ ρ' → Step n H w H' w' → Q a b H') → t σ H Q
def mRg1 (a : AE) : Env → R ((Int × Int) × Env) := fun ρ => do
  let (s, ρ1) ← a ρ
  match s.cell ρ1 with
  | some ⟨.int j, _⟩ => R.ok ((0, j), ρ1)
  | _ => R.bad
def mRg2 (a b : AE) : Env → R ((Int × Int) × Env) := fun ρ => do
  let (s, ρ1) ← a ρ
  let (u, ρ2) ← b ρ1
  match s.cell ρ2, u.cell ρ2 with
  | some ⟨.int i, _⟩, some ⟨.int j, _⟩ => R.ok ((i, j), ρ2)
  | _, _ => R.bad
theorem srg_1 {a : Expr} {m : AE} {p pos : Pos} (hm : X.mg "range" = none) (ha : SA X a m) (hg : Gl X "range" := by rfl) (na : starEach [a] X.env = (false, eval a X.env) :: starEach [] X.env := by rfl) : SRg X (.Call (.Name "range" p) [a] [] pos) (mRg1 m) := by
  obtain ⟨t, q, g⟩ := ha.ex
  refine ⟨_, prg_1 hg hm q na, fun n σ H w ρ a b ρ' Q ok hm k => ?_⟩
  obtain ⟨⟨s, ρ1⟩, e1, hm⟩ := R.of_bind hm
  dsimp only at hm
  split at hm
  · rename_i j _ hc
    cases hm
    refine g n σ H w ρ s _ _ ok e1 fun v H1 w1 ok1 st1 sa => ?_
    obtain ⟨o, _, h1⟩ := sa.cell ok1 hc
    cases ow_int h1
    exact ⟨_, rfl, k H1 w1 ok1 st1⟩
  · cases hm
theorem srg_2 {a b : Expr} {m m2 : AE} {p pos : Pos} (hm : X.mg "range" = none) (ha : SA X a m) (hb : SA X b m2) (hg : Gl X "range" := by rfl) (na : starEach [a, b] X.env = (false, eval a X.env) :: starEach [b] X.env := by rfl)
    (nb : starEach [b] X.env = (false, eval b X.env) :: starEach [] X.env := by rfl) (hp : (backTo pos (starEach [b] X.env)).any (·.1) = false := by rfl) : SRg X (.Call (.Name "range" p) [a, b] [] pos) (mRg2 m m2) := by
  obtain ⟨t, q, g⟩ := ha.ex
  obtain ⟨t2, q2, g2⟩ := hb.ex
  refine ⟨_, prg_2 hg hm q q2 na nb hp, fun n σ H w ρ a b ρ' Q ok hm k => ?_⟩
  obtain ⟨⟨s, ρ1⟩, e1, hm⟩ := R.of_bind hm
  obtain ⟨⟨u, ρ2⟩, e2, hm⟩ := R.of_bind hm
  dsimp only at hm e2
  split at hm
  · rename_i i _ j _ hc hd
    cases hm
    refine g n σ H w ρ s _ _ ok e1 fun v H1 w1 ok1 st1 sa => ?_
    refine g2 (n + 1) σ H1 w1 ρ1 u _ _ ok1 e2 fun v2 H2 w2 ok2 st2 sa2 => ?_
    obtain ⟨o, _, h1⟩ := (sa.step st2 (Nat.lt_succ_self n)).cell ok2 hc
    obtain ⟨o2, _, h2⟩ := sa2.cell ok2 hd
    cases ow_int h1
    cases ow_int h2
    exact ⟨_, _, rfl, rfl, k H2 w2 ok2 (st1.trans (st2.mono (Nat.le_succ n)))⟩
  · cases hm
def rgOkB (a b : Int) : Bool := rgB a b && decide ((b - a).toNat ≤ 16777216)
theorem rgOkB_ok {a b : Int} (h : rgOkB a b = true) : RgOk a b := by
  unfold rgOkB rgB at h
  simp only [Bool.and_eq_true, decide_eq_true_eq] at h
  exact ⟨h.1.1, h.1.2.1, h.1.2.2.1, h.1.2.2.2, h.2⟩
theorem rg_fz {K : PySem.W.Frag} {H : Hp} {w : OM} (a b : Int) : FzL K H w (rgD a b) (rgV a b) := by
  unfold rgD rgV
  generalize (List.range (b - a).toNat) = l
  induction l with
  | nil => exact .nil
  | cons x r ih => exact .cons (.int _) ih
def mListRg (m : Env → R ((Int × Int) × Env)) : AE := fun ρ => do
  let (x, ρ1) ← m ρ
  if rgOkB x.1 x.2 then R.ok (.v ⟨.lst (rgD x.1 x.2), 1⟩, ρ1) else R.bad
def mTupRg (m : Env → R ((Int × Int) × Env)) : AE := fun ρ => do
  let (x, ρ1) ← m ρ
  if rgOkB x.1 x.2 then R.ok (.v (Cell.fz (.tup (rgD x.1 x.2))), ρ1) else R.bad
theorem sa_listRg {e : Expr} {m : Env → R ((Int × Int) × Env)} {p pos : Pos} (hc : X.calm = true) (hm : X.mg "list" = none) (h : SRg X e m) (hg : Gl X "list" := by rfl) (na : starEach [e] X.env = (false, eval e X.env) :: starEach [] X.env := by rfl) : SA X (.Call (.Name "list" p) [e] [] pos) (mListRg m) := by
  obtain ⟨t, q, g⟩ := h.ex
  refine ⟨_, pe_listRg hc hg hm q na, fun n σ H w ρ s ρ' Q ok hm k => ?_⟩
  obtain ⟨⟨⟨a, b⟩, ρ1⟩, e1, hm⟩ := R.of_bind hm
  dsimp only at hm
  split at hm
  · rename_i hb
    cases hm
    refine g n σ H w ρ a b _ _ ok e1 fun H1 w1 ok1 st1 => ⟨rgOkB_ok hb, fun p hp => ?_⟩
    exact k _ _ (w1.put p (.tm n)) (ok1.new hp _) (st1.trans (Step.new hp)) (.lst upd_same OM.put_same (rg_fz a b))
  · cases hm
theorem sa_tupRg {e : Expr} {m : Env → R ((Int × Int) × Env)} {p pos : Pos} (hc : X.calm = true) (hm : X.mg "tuple" = none) (h : SRg X e m) (hg : Gl X "tuple" := by rfl) (na : starEach [e] X.env = (false, eval e X.env) :: starEach [] X.env := by rfl) : SA X (.Call (.Name "tuple" p) [e] [] pos) (mTupRg m) := by
  obtain ⟨t, q, g⟩ := h.ex
  refine ⟨_, pe_tupRgF hc hg hm q na, fun n σ H w ρ s ρ' Q ok hm k => ?_⟩
  obtain ⟨⟨⟨a, b⟩, ρ1⟩, e1, hm⟩ := R.of_bind hm
  dsimp only at hm
  split at hm
  · rename_i hb
    cases hm
    refine g n σ H w ρ a b _ _ ok e1 fun H1 w1 ok1 st1 => ⟨rgOkB_ok hb, fun p ob hp hd => ?_⟩
    exact k _ _ (w1.put p .no) (ok1.new hp _) (st1.trans (Step.new hp)) (.fz (.tup (.inl ⟨⟨ob, upd_same, hd⟩, OM.put_same⟩) (rg_fz a b)))
  · cases hm

/-! ### isinstance -/
def isT (T : String) : D → Option Bool
  | .non => if T = "int" ∨ T = "str" ∨ T = "tuple" ∨ T = "list" ∨ T = "bool" ∨ T = "dict" then some false else none
  | .bl _ => if T = "int" ∨ T = "bool" then some true else if T = "str" ∨ T = "tuple" ∨ T = "list" ∨ T = "dict" then some false else none
  | .int _ => if T = "int" then some true else if T = "str" ∨ T = "tuple" ∨ T = "list" ∨ T = "bool" ∨ T = "dict" then some false else none
  | .str _ => if T = "str" then some true else if T = "int" ∨ T = "tuple" ∨ T = "list" ∨ T = "bool" ∨ T = "dict" then some false else none
  | .tup _ => if T = "tuple" then some true else if T = "int" ∨ T = "str" ∨ T = "list" ∨ T = "bool" ∨ T = "dict" then some false else none
  | .lst _ => if T = "list" then some true else if T = "int" ∨ T = "str" ∨ T = "tuple" ∨ T = "bool" ∨ T = "dict" then some false else none
  | _ => none
def fIsi (T : String) : List Cell → R Cell
  | [c] => match isT T c.d with
    | some b => .ok (Cell.fz (.bl b))
    | none => .bad
  | _ => .bad
def tyN : D → String
  | .non => "NoneType"
  | .bl _ => "bool"
  | .int _ => "int"
  | .str _ => "str"
  | .tup _ => "tuple"
  | .lst _ => "list"
  | .scr _ => "list"
  | .dct _ _ => "dict"
theorem kit_two {T t : String} {b x y : Bool} {P Q : Prop} [Decidable P] [Decidable Q] (e : (if P then some x else if Q then some y else none) = some b) (hp : P → kitB t T = some x) (hq : Q → kitB t T = some y) : kitB t T = some b := by
  split at e
  · cases e; exact hp (by assumption)
  · split at e
    · cases e; exact hq (by assumption)
    · cases e
theorem isT_ok {T : String} {d : D} {b : Bool} (e : isT T d = some b) : kitB (tyN d) T = some b := by
  cases d with
  | non =>
    dsimp only [isT] at e
    dsimp only [tyN]
    split at e
    · rename_i h
      cases e
      rcases h with rfl | rfl | rfl | rfl | rfl | rfl <;> decide +kernel
    · cases e
  | bl x =>
    dsimp only [isT] at e
    dsimp only [tyN]
    refine kit_two e (fun h => ?_) fun h => ?_
    · rcases h with rfl | rfl <;> decide +kernel
    · rcases h with rfl | rfl | rfl | rfl <;> decide +kernel
  | int x =>
    dsimp only [isT] at e
    dsimp only [tyN]
    refine kit_two e (fun h => ?_) fun h => ?_
    · subst h; decide +kernel
    · rcases h with rfl | rfl | rfl | rfl | rfl <;> decide +kernel
  | str x =>
    dsimp only [isT] at e
    dsimp only [tyN]
    refine kit_two e (fun h => ?_) fun h => ?_
    · subst h; decide +kernel
    · rcases h with rfl | rfl | rfl | rfl | rfl <;> decide +kernel
  | tup x =>
    dsimp only [isT] at e
    dsimp only [tyN]
    refine kit_two e (fun h => ?_) fun h => ?_
    · subst h; decide +kernel
    · rcases h with rfl | rfl | rfl | rfl | rfl <;> decide +kernel
  | lst x =>
    dsimp only [isT] at e
    dsimp only [tyN]
    refine kit_two e (fun h => ?_) fun h => ?_
    · subst h; decide +kernel
    · rcases h with rfl | rfl | rfl | rfl | rfl <;> decide +kernel
  | _ => cases e
theorem ow_ty {K : PySem.W.Frag} {H : Hp} {w : OM} {o : Own} {k : Nat} {T : String} {d : D} {v : V} {b : Bool} (h : Ow K H w o k d v) (e : isT T d = some b) : TyX K H v (.type (tyN d)) := by
  cases d with
  | non => cases ow_non h; exact .base .non
  | bl x => cases ow_bl h; exact .base (.bl _)
  | int x => cases ow_int h; exact .base (.int _)
  | str x => cases ow_str h; exact .base (.str _)
  | tup l =>
    obtain ⟨a, xs, rfl, ta, fa⟩ := ow_tup h
    rcases ta with ⟨⟨q, ta, _⟩, _⟩ | ⟨ob, its, n, hk, hc, _⟩
    · exact .fTuple ta
    · exact .kTuple hk hc
  | lst l =>
    obtain ⟨a, xs, rfl, ta, _⟩ := ow_lst h
    exact .base (.lst ta)
  | _ => cases e
/-- isinstance(e, T), T a built-in type's name -/
theorem sa_isi {T : String} {e : Expr} {m : AE} {p q pos : Pos} (hm : X.mg "isinstance" = none) (hmT : X.mg (Str.ofString T) = none) (ha : SA X e m) (hv : bootBuiltins (Str.ofString T) = some (.type T)) (hg : Gl X "isinstance" := by rfl) (hgT : Gl X (Str.ofString T) := by rfl)
    (hn : (Str.ofString T) ≠ "__name__" := by decide) (hd : ((Str.ofString T) == ("__debug__" : Str)) = false := by decide)
    (he : starEach (e :: [.Name (Str.ofString T) q]) X.env = (false, eval e X.env) :: starEach [.Name (Str.ofString T) q] X.env := by rfl) (he2 : starEach [.Name (Str.ofString T) q] X.env = (false, eval (.Name (Str.ofString T) q) X.env) :: starEach [] X.env := by rfl)
    (hpl : (backTo pos (starEach [.Name (Str.ofString T) q] X.env)).any (·.1) = false := by rfl) : SA X (.Call (.Name "isinstance" p) [e, .Name (Str.ofString T) q] [] pos) (mPrim (fIsi T) [m]) := by
  obtain ⟨t, pe, g⟩ := ha.ex
  refine ⟨_, pe_callB call_isi hg hm (by decide +kernel) (pa_cons pe (pa_cons (pe_bltn (v := .ty T) (u := .type T) hgT hmT hv rfl hn hd) pa_nil he2) he) (by decide) (by decide) he hpl, fun n σ H w ρ s ρ' Q ok hm k => ?_⟩
  obtain ⟨ss, cs, c, e1, e2, e3, rfl⟩ := mPrim_ok hm
  obtain ⟨⟨s1, ρ1⟩, f1, e1⟩ := R.of_bind e1
  cases e1
  refine g n σ H w ρ s1 _ _ ok f1 fun v H1 w1 ok1 st1 sa => ?_
  have ow := SrcsAt.cells (n := n) (ss := [s1]) (vs := [v]) ok1 ⟨sa, trivial⟩ e2
  unfold fIsi at e3
  split at e3
  · rename_i c1
    split at e3
    · rename_i b hb
      cases e3
      obtain ⟨v', o, ev, h1⟩ := ow.one
      cases ev
      exact ⟨v, .ty T, _, _, b, rfl, .ty T, ow_ty h1 hb, kit_ty (isT_ok hb), k _ H1 w1 ok1 st1 (.fz (.bl _))⟩
    · cases e3
  · cases e3
end
end Z

/-! Z: comprehensions. -/
namespace Z
open PySem PySem.Spec PyProof.Rows L2

/-! ### readings that hang on what is reckoned alone -/
def rdE (K : PySem.W.Frag) (m : AE) : TE := fun σ H Q => ∃ (n : Nat) (w : OM) (ρ : Env) (s : Src) (ρ' : Env), Ok K H w σ ρ ∧ m ρ = .ok (s, ρ') ∧ ∀ v H' w', Ok K H' w' σ ρ' → Step n H w H' w' → SrcAt K H' w' σ n s v → Q v H'
def rdT (K : PySem.W.Frag) (m : MT) : TT := fun σ H Q => ∃ (n : Nat) (w : OM) (ρ : Env) (b : Bool) (ρ' : Env), Ok K H w σ ρ ∧ m ρ = .ok (b, ρ') ∧ ∀ H' w', Ok K H' w' σ ρ' → Step n H w H' w' → Q b H'
def rdG (K : PySem.W.Frag) (sl : List Nat) (m : MG) : TG := fun v σ H Q => ∃ (w : OM) (ρ : Env) (L : List Nat) (d : D) (ρ' : Env), Ok K H w σ ρ ∧ Fz K H w d v ∧ m d L ρ = .ok ρ' ∧
  ∀ σ', Ok K H w σ' ρ' → σ'.length = σ.length → (∀ i, i ∉ sl → σ'[i]? = σ[i]?) → (∀ i ∈ L, σ'[i]? = σ[i]?) → Q σ' H
section
variable {X : Cx}
theorem SA.rd {e : Expr} {m : AE} (h : SA X e m) : PE X e (rdE X.K m) := by
  obtain ⟨t, p, g⟩ := h.ex
  exact ⟨fun pins s σ H Q I ⟨n, w, ρ, s', ρ', ok, hm, k⟩ => p.run pins s σ H Q I (g n σ H w ρ s' ρ' Q ok hm k)⟩
theorem SG.rd {e : Expr} {sl : List Nat} {m : MG} (h : SG X e sl m) : PG X e (rdG X.K sl m) := by
  obtain ⟨t, p, g⟩ := h.ex
  exact ⟨fun pins s σ H v u Q I r ⟨w, ρ, L, d, ρ', ok, fz, hm, k⟩ => p.run pins s σ H v u Q I r (g σ H w ρ L d v ρ' Q ok fz hm k)⟩
structure STs (X : Cx) (ifs : List Expr) (m : MT) : Prop where
  ex : ∃ t, PTs X ifs t ∧ ∀ (n : Nat) (σ : L2.St) (H : Hp) (w : OM) (ρ : Env) (b : Bool) (ρ' : Env) (Q : Bool → Hp → Prop), Ok X.K H w σ ρ → m ρ = .ok (b, ρ') →
    (∀ H' w', Ok X.K H' w' σ ρ' → Step n H w H' w' → Q b H') → t σ H Q
theorem STs.rd {ifs : List Expr} {m : MT} (h : STs X ifs m) : PTs X ifs (rdT X.K m) := by
  obtain ⟨t, p, g⟩ := h.ex
  exact ⟨fun pins s σ H Q I ⟨n, w, ρ, b, ρ', ok, hm, k⟩ => p.run pins s σ H Q I (g n σ H w ρ b ρ' Q ok hm k)⟩
def mYes : MT := fun ρ => .ok (true, ρ)
theorem sts_nil : STs X [] mYes := ⟨_, pts_nil, fun n σ H w ρ b ρ' Q ok hm k => by
  cases hm
  exact k H w ok Step.refl⟩
theorem sts_one {c : Expr} {m : MT} (h : ST X c m) : STs X [c] m := by
  obtain ⟨t, p, g⟩ := h.ex
  exact ⟨t, pts_one p, g⟩

def wipeE (ρ : Env) : List Nat → Env
  | [] => ρ
  | i :: r => (wipeE ρ r).set i none
def restore (ρ ρ0 : Env) : List Nat → Env
  | [] => ρ
  | i :: r => (restore ρ ρ0 r).set i (ρ0.get i)
def ownOk (ρ : Env) (vs : List Nat) : Bool := vs.all fun i => match ρ.get i with
  | some c => decide (c.k = 0)
  | none => true
theorem wipeE_length (ρ : Env) : ∀ vs, (wipeE ρ vs).length = ρ.length
  | [] => rfl
  | i :: r => by rw [wipeE, Env.length_set, wipeE_length ρ r]
theorem restore_length (ρ ρ0 : Env) : ∀ vs, (restore ρ ρ0 vs).length = ρ.length
  | [] => rfl
  | i :: r => by rw [restore, Env.length_set, restore_length ρ ρ0 r]
theorem wipeE_get {ρ : Env} {i : Nat} {c : Cell} : ∀ {vs : List Nat}, (wipeE ρ vs).get i = some c → ρ.get i = some c ∧ i ∉ vs
  | [], h => ⟨h, by simp⟩
  | j :: r, h => by
    rcases Env.get_set h with ⟨_, z⟩ | ⟨hj, z⟩
    · cases z
    · obtain ⟨h1, h2⟩ := wipeE_get z
      exact ⟨h1, by simp [hj, h2]⟩
theorem restore_get {ρ ρ0 : Env} {i : Nat} {c : Cell} : ∀ {vs : List Nat}, (restore ρ ρ0 vs).get i = some c → (i ∉ vs ∧ ρ.get i = some c) ∨ (i ∈ vs ∧ ρ0.get i = some c)
  | [], h => .inl ⟨by simp, h⟩
  | j :: r, h => by
    rcases Env.get_set h with ⟨e, z⟩ | ⟨hj, z⟩
    · subst e; exact .inr ⟨by simp, z⟩
    · rcases restore_get z with ⟨h1, h2⟩ | ⟨h1, h2⟩
      · exact .inl ⟨by simp [hj, h1], h2⟩
      · exact .inr ⟨by simp [h1], h2⟩
theorem wipe_get {σ : L2.St} {i : Nat} : ∀ {vs : List Nat}, (wipe σ vs)[i]? = if i ∈ vs then (σ[i]?).map (fun _ => none) else σ[i]?
  | [] => by simp [wipe]
  | j :: r => by
    rw [wipe]
    by_cases e : j = i
    · subst e
      rw [if_pos (by simp)]
      by_cases hl : j < σ.length
      · rw [List.getElem?_set_self (by rw [wipe_length]; exact hl), List.getElem?_eq_getElem hl]; rfl
      · rw [List.getElem?_eq_none (by rw [List.length_set, wipe_length]; omega), List.getElem?_eq_none (by omega)]; rfl
    · rw [List.getElem?_set_ne e, wipe_get]
      have : (i ∈ j :: r) ↔ (i ∈ r) := by simp [Ne.symm e]
      simp only [this]
theorem wipe_eq {σ σ2 : L2.St} {vs : List Nat} (hl : σ2.length = σ.length) (h : ∀ i, i ∉ vs → σ2[i]? = (wipe σ vs)[i]?) : wipe σ2 vs = wipe σ vs := by
  refine List.ext_getElem? fun i => ?_
  rw [wipe_get]
  by_cases hi : i ∈ vs
  · rw [if_pos hi, wipe_get, if_pos hi]
    by_cases h' : i < σ.length
    · rw [List.getElem?_eq_getElem h', List.getElem?_eq_getElem (by omega)]; rfl
    · rw [List.getElem?_eq_none (by omega), List.getElem?_eq_none (by omega)]
  · rw [if_neg hi]; exact h i hi
section
variable {K : PySem.W.Frag} {H : Hp} {w : OM} {σ : L2.St} {ρ : Env}
theorem Ok.wipe (ok : Ok K H w σ ρ) (vs : List Nat) : Ok K H w (L2.wipe σ vs) (wipeE ρ vs) := by
  refine ⟨by rw [wipe_length, wipeE_length]; exact ok.len, fun i c h => ?_, ok.live⟩
  obtain ⟨h1, h2⟩ := wipeE_get h
  obtain ⟨v, e, q⟩ := ok.slot i c h1
  exact ⟨v, by rw [wipe_get, if_neg h2]; exact e, q⟩
theorem Ok.wipe2 {σ0 : L2.St} {vs : List Nat} (ok : Ok K H w σ ρ) (hw : L2.wipe σ vs = L2.wipe σ0 vs) : Ok K H w (L2.wipe σ0 vs) (wipeE ρ vs) := by
  rw [← hw]; exact ok.wipe vs
theorem Ok.write {p : Addr} {u : HO} {n : Nat} (ok : Ok K H w σ ρ) (hp : w p = .tm n) : Ok K (upd H p u) w σ ρ := by
  refine ⟨ok.len, fun i c h => ?_, fun a h => ?_⟩
  · obtain ⟨v, e, q⟩ := ok.slot i c h
    exact ⟨v, e, q.step (Kp.write (by rw [hp]; intro z; cases z) (by rw [hp]; intro z; cases z))⟩
  · by_cases z : a = p
    · subst z; rw [upd_same]; exact fun q => nomatch q
    · rw [upd_ne z]; exact ok.live a h
end
def loopC (it : ItD) (g : MG) (tt : MT) (me : AE) (vs : List Nat) : List D → Env → R (List D × Env)
  | [], ρ => .ok ([], ρ)
  | d :: r, ρ => do
    let ρa ← g d [] ρ
    let (b, ρb) ← tt ρa
    if b then do
      let (s, ρc) ← me ρb
      let (c, ρd) ← esc s ρc
      if chkOk it (wipeE ρd vs) then do
        let (acc, ρe) ← loopC it g tt me vs r (wipeE ρd vs)
        R.ok (c.d :: acc, ρe)
      else R.bad
    else if chkOk it (wipeE ρb vs) then loopC it g tt me vs r (wipeE ρb vs) else R.bad
def mComp (mi : MI) (g : MG) (tt : MT) (me : AE) (vs : List Nat) : AE := fun ρ => do
  let (it, ρ1) ← mi ρ
  if ownOk ρ1 vs && decide (it.items.length ≤ 16777216) && chkOk it (wipeE ρ1 vs) then do
    let (acc, ρ2) ← loopC it g tt me vs it.items (wipeE ρ1 vs)
    R.ok (.v ⟨.lst acc, 1⟩, restore ρ2 ρ1 vs)
  else R.bad
theorem lc_sem {tg : Expr} {wi : TI} {mi : MI} {g : MG} {tt : MT} {me : AE} {sl vs : List Nat} (hsl : ∀ i ∈ sl, i ∈ vs)
    (f : ∀ (n : Nat) (σ : L2.St) (H : Hp) (w : OM) (ρ : Env) (it : ItD) (ρ' : Env) (Q : It → Hp → Prop), Ok X.K H w σ ρ → mi ρ = .ok (it, ρ') →
      (∀ J H' w', Ok X.K H' w' σ ρ' → Step n H w H' w' → chkOk it ρ' = true → ItOk X.K J n it σ H' w' → Q J H') → wi σ H Q) :
    ∀ (n : Nat) (σ : L2.St) (H : Hp) (w : OM) (ρ : Env) (s : Src) (ρ' : Env) (Q : VK), Ok X.K H w σ ρ → mComp mi g tt me vs ρ = .ok (s, ρ') →
    (∀ v H' w', Ok X.K H' w' σ ρ' → Step n H w H' w' → SrcAt X.K H' w' σ n s v → Q v H') → tLc wi (rdG X.K sl g) (rdT X.K tt) (rdE X.K me) vs σ H Q := by
  intro n σ H w ρ s ρ' Q ok hm k
  obtain ⟨⟨it, ρ1⟩, e1, hm⟩ := R.of_bind hm
  dsimp only at hm
  split at hm
  · rename_i hc
    obtain ⟨⟨total, ρ2⟩, e2, hm⟩ := R.of_bind hm
    cases hm
    simp only [Bool.and_eq_true, decide_eq_true_eq] at hc
    obtain ⟨⟨hown, hlen⟩, hck⟩ := hc
    refine f n σ H w ρ it ρ1 _ ok e1 fun J H1 w1 ok1 st1 c1 io => ?_
    intro D hD
    have ok2 : Ok X.K (upd H1 D (.lst [])) (w1.put D (.tm n)) σ ρ1 := ok1.new hD _
    have st2 : Step n H1 w1 (upd H1 D (.lst [])) (w1.put D (.tm n)) := Step.new hD
    refine ⟨fun i m H2 => m = it.items.length - i ∧ i ≤ it.items.length ∧ ∃ w2 ρ3 acc accV rest, Ok X.K H2 w2 (L2.wipe σ vs) ρ3 ∧ Step n H1 w1 H2 w2 ∧ chkOk it ρ3 = true ∧ loopC it g tt me vs (it.items.drop i) ρ3 = .ok (rest, ρ2) ∧
        acc ++ rest = total ∧ acc.length ≤ i ∧ H2 D = some (.lst accV) ∧ w2 D = .tm n ∧ FzL X.K H2 w2 acc accV,
      ⟨_, rfl, Nat.zero_le _, _, _, [], [], total, ok2.wipe vs, st2, hck, e2, rfl, Nat.le_refl _, upd_same, OM.put_same, .nil⟩, ?_⟩
    rintro i m H2 ⟨rfl, hle, w2, ρ3, acc, accV, rest, ok3, st3, ck3, e3, et, hla, hDa, hwD, fa⟩
    obtain ⟨go, stop⟩ := io H2 w2 (L2.wipe σ vs) ρ3 i ok3 st3 (fun j hj => by
      unfold chkOk at ck3
      rw [hj] at ck3
      dsimp only at ck3
      split at ck3
      · rename_i c hc
        obtain ⟨v, ev, _⟩ := ok3.slot j c hc
        rw [ev]
        exact (wipe_some ev).1.symm
      · cases ck3) ck3
    by_cases hlt : i < it.items.length
    · obtain ⟨hgo, hy⟩ := go _ (List.getElem?_eq_getElem hlt)
      rw [List.drop_eq_getElem_cons hlt] at e3
      obtain ⟨ρa, ea, e3⟩ := R.of_bind e3
      obtain ⟨⟨b, ρb⟩, eb, e3⟩ := R.of_bind e3
      refine .inr ⟨hgo, fun H4 => ∃ w4 ρ4 acc accV rest, Ok X.K H4 w4 (L2.wipe σ vs) ρ4 ∧ Step n H1 w1 H4 w4 ∧ chkOk it ρ4 = true ∧ loopC it g tt me vs (it.items.drop (i + 1)) ρ4 = .ok (rest, ρ2) ∧
        acc ++ rest = total ∧ acc.length ≤ i + 1 ∧ H4 D = some (.lst accV) ∧ w4 D = .tm n ∧ FzL X.K H4 w4 acc accV, ?_, ?_⟩
      · rintro H4 h4
        exact ⟨it.items.length - (i + 1), by omega, rfl, hlt, h4⟩
      · intro x H3 y
        obtain ⟨w3, ok3f, st3f, fz⟩ := hy x H3 y
        have ok4 := ok3f _ _ ok3
        refine ⟨w3, ρ3, [], _, ρa, ok4, fz, ea, fun σ2 ok5 n5 a5 _ => ?_⟩
        have hwp : L2.wipe σ2 vs = L2.wipe σ vs := wipe_eq (by rw [n5, wipe_length]) fun j hj => a5 j fun z => hj (hsl j z)
        refine ⟨hwp, n + 1, w3, ρa, b, ρb, ok5, eb, fun H5 w5 ok6 st6 => ?_⟩
        have D3 := st3f (n + 1) D _ hDa (by rw [hwD]; exact .inr (.inr ⟨n, Nat.lt_succ_self n, rfl⟩))
        have hw3 : w3 D = .tm n := D3.2.trans hwD
        have D5 := st6 D _ D3.1 (by rw [hw3]; exact .inr (.inr ⟨n, Nat.lt_succ_self n, rfl⟩))
        have hw5 : w5 D = .tm n := D5.2.trans hw3
        have fa3 := (st3f 0).kp (o := .no) (.inl rfl)
        have fa5 : FzL X.K H5 w5 acc accV := (fa.step fa3).step (st6.kp (o := .no) (.inl rfl))
        have st5 : Step n H1 w1 H5 w5 := (st3.trans (st3f n)).trans (st6.mono (Nat.le_succ n))
        cases b with
        | false =>
          have e3 : (if chkOk it (wipeE ρb vs) = true then loopC it g tt me vs (it.items.drop (i + 1)) (wipeE ρb vs) else R.bad) = .ok (rest, ρ2) := e3
          split at e3
          · exact iteF ⟨w5, wipeE ρb vs, acc, accV, rest, ok6.wipe2 hwp, st5, by assumption, e3, et, by omega, D5.1, hw5, fa5⟩
          · cases e3
        | true =>
          obtain ⟨⟨s1, ρc⟩, ec, e3⟩ := R.of_bind (show (me ρb >>= _) = _ from e3)
          obtain ⟨⟨c, ρd⟩, ed, e3⟩ := R.of_bind e3
          dsimp only at e3
          split at e3
          · rename_i hck2
            obtain ⟨⟨rest2, ρe⟩, er, e3⟩ := R.of_bind e3
            cases e3
            refine iteT ⟨n + 1, w5, ρb, s1, ρc, ok6, ec, fun v H6 w6 ok7 st7 sa => ?_⟩
            obtain ⟨w7, ok8, st8, ow, kp8⟩ := esc_ok ok7 sa ed
            have D6 := st7 D _ D5.1 (by rw [hw5]; exact .inr (.inr ⟨n, Nat.lt_succ_self n, rfl⟩))
            have hw6 : w6 D = .tm n := D6.2.trans hw5
            have D7 := st8 (n + 1) D _ D6.1 (by rw [hw6]; exact .inr (.inr ⟨n, Nat.lt_succ_self n, rfl⟩))
            have hw7 : w7 D = .tm n := D7.2.trans hw6
            have hw8 : (w7.re (.tm (n + 1)) .no) D = .tm n := by rw [OM.re_ne (by rw [hw7]; intro z; cases z)]; exact hw7
            have ok9 : Ok X.K H6 (w7.re (.tm (n + 1)) .no) σ2 ρd := ok8.re (by intro z; cases z) (by intro i z; cases z)
            have fz9 : Fz X.K H6 (w7.re (.tm (n + 1)) .no) c.d v := ow.freeze (by intro z; cases z)
            have st9 : Step (n + 1) H5 w5 H6 (w7.re (.tm (n + 1)) .no) := (st7.trans (st8 _)).trans (Step.re not_fixed_tm)
            have fa9 : FzL X.K H6 (w7.re (.tm (n + 1)) .no) acc accV := fa5.step (st9.kp (o := .no) (.inl rfl))
            have hla9 : accV.length = acc.length := fa9.length.symm
            have kpw : Kp .no H6 (w7.re (.tm (n + 1)) .no) (upd H6 D (.lst (accV ++ [v]))) (w7.re (.tm (n + 1)) .no) := Kp.write (by rw [hw8]; intro z; cases z) (by rw [hw8]; intro z; cases z)
            refine ⟨accV, D6.1, by rw [sizeLine_eq, hla9]; omega, w7.re (.tm (n + 1)) .no, wipeE ρd vs, acc ++ [c.d], accV ++ [v], rest2, ?_, ?_, hck2, er, ?_, ?_, upd_same, hw8, ?_⟩
            · exact (ok9.write hw8).wipe2 hwp
            · exact (st5.trans (st9.mono (Nat.le_succ n))).trans (Step.write (by rw [hw8]; exact not_fixed_tm))
            · rw [List.append_assoc]; exact et
            · rw [List.length_append]; simp; omega
            · exact (fa9.append (.cons fz9 .nil)).step kpw
          · cases e3
    · have e : i = it.items.length := by omega
      subst e
      rw [List.drop_length] at e3
      cases e3
      rw [List.append_nil] at et
      subst et
      refine .inl ⟨stop (Nat.le_refl _), k (.ref D) H2 w2 ?_ (st1.trans st3) (.lst hDa hwD fa)⟩
      refine ⟨by rw [restore_length, ← ok3.len, wipe_length], fun i c h => ?_, ok3.live⟩
      rcases restore_get h with ⟨h1, h2⟩ | ⟨h1, h2⟩
      · obtain ⟨v, ev, q⟩ := ok3.slot i c h2
        exact ⟨v, (wipe_some ev).1, q⟩
      · obtain ⟨v, ev, q⟩ := ok1.slot i c h2
        have hk : c.k = 0 := by
          have := List.all_eq_true.mp hown i h1
          rw [h2] at this
          exact of_decide_eq_true this
        rw [hk] at q ⊢
        refine ⟨v, ev, ?_⟩
        cases q with
        | fz q => exact .fz (st3.fz q)
  · cases hm
theorem sa_lc {elt tg iter : Expr} {ifs : List Expr} {scope : Scope} {own : List (Str × Nat)} {pos : Pos} {mi : MI} {g : MG} {tt : MT} {me : AE} {sl vs : List Nat} (hc : X.calm = true) (hN : X.N.Nodup) (hi : SI X tg iter mi) (ok : BlkOk X.N X.env.scope scope own) (hv : own.map (·.2) = vs)
    (hg : ∀ (s : Shared) (H : Hp) (C : Addr) (cl : List (Str × Addr)) (fp : List Addr), SG (X.blk s H scope (compEnvC scope cl C X.env) fp) tg sl g) (ht : ∀ (s : Shared) (H : Hp) (C : Addr) (cl : List (Str × Addr)) (fp : List Addr), STs (X.blk s H scope (compEnvC scope cl C X.env) fp) ifs tt)
    (he : ∀ (s : Shared) (H : Hp) (C : Addr) (cl : List (Str × Addr)) (fp : List Addr), SA (X.blk s H scope (compEnvC scope cl C X.env) fp) elt me) (hsl : ∀ i ∈ sl, i ∈ vs := by decide) (hs : ∀ x, foldedSetIterable iter X.env x = pure x := by intro _; rfl) :
    SA X (.ListComp elt [⟨tg, iter, ifs, 0⟩] scope pos) (mComp mi g tt me vs) := by
  subst hv
  obtain ⟨wi, p, f⟩ := hi.ex
  exact ⟨_, pe_lc hc hN p ok (fun s H C cl fp => (hg s H C cl fp).rd) (fun s H C cl fp => (ht s H C cl fp).rd) (fun s H C cl fp => (he s H C cl fp).rd) hs, lc_sem (X := X) (tg := tg) hsl f⟩
/-- y = [..] on one line, y a local -/
theorem ss_setLc {i : Nat} {y : Str} {py : Pos} {elt tg iter : Expr} {ifs : List Expr} {scope : Scope} {own : List (Str × Nat)} {pos spos : Pos} {mi : MI} {g : MG} {tt : MT} {me : AE} {sl vs : List Nat} (hc : X.calm = true) (hN : X.N.Nodup) (hi : SI X tg iter mi) (ok : BlkOk X.N X.env.scope scope own) (hv : own.map (·.2) = vs)
    (hg : ∀ (s : Shared) (H : Hp) (C : Addr) (cl : List (Str × Addr)) (fp : List Addr), SG (X.blk s H scope (compEnvC scope cl C X.env) fp) tg sl g) (ht : ∀ (s : Shared) (H : Hp) (C : Addr) (cl : List (Str × Addr)) (fp : List Addr), STs (X.blk s H scope (compEnvC scope cl C X.env) fp) ifs tt)
    (he : ∀ (s : Shared) (H : Hp) (C : Addr) (cl : List (Str × Addr)) (fp : List Addr), SA (X.blk s H scope (compEnvC scope cl C X.env) fp) elt me) (hsl : ∀ i ∈ sl, i ∈ vs := by decide)
    (hy : X.N[i]? = some y := by rfl) (hyl : X.env.scope.names.lookup y = some .local := by rfl) (hsw : swapsWith (.ListComp elt [⟨tg, iter, ifs, 0⟩] scope pos) (some (.Name y py)) spos.line X.env = pure true := by exact sw_true rfl rfl rfl (by decide +kernel)) (hs : ∀ x, foldedSetIterable iter X.env x = pure x := by intro _; rfl) :
    SS X (.Assign [.Name y py] (.ListComp elt [⟨tg, iter, ifs, 0⟩] scope pos) spos) (mSet i (mComp mi g tt me vs)) := by
  subst hv
  obtain ⟨wi, p, f⟩ := hi.ex
  exact ⟨_, ps_setLc hc hN hy hyl hsw p ok (fun s H C cl fp => (hg s H C cl fp).rd) (fun s H C cl fp => (ht s H C cl fp).rd) (fun s H C cl fp => (he s H C cl fp).rd) hs, mSet_core (lc_sem (X := X) (tg := tg) hsl f)⟩
end
end Z

/-! Z: defs and their calls. -/
namespace Z
open PySem PySem.Spec PyProof.Rows L2

/-! ### a def -/
abbrev FD := List Cell → R (Cell × List Cell)
/-- the arguments that may be written: bound for good, looked at behind the call -/
def locks : Nat → List Cell → List Nat
  | _, [] => []
  | j, c :: r => if c.k = 0 then locks (j + 1) r else j :: locks (j + 1) r
def fins (ρ : Env) : Nat → List Cell → R (List Cell)
  | _, [] => .ok []
  | j, c :: r => do
    let fs ← fins ρ (j + 1) r
    if c.k = 0 then R.ok (c :: fs) else match ρ.get j with
      | some c' => R.ok (c' :: fs)
      | none => R.bad
def runDef (size : Nat) (m : MS) : FD := fun args => do
  let (fl, ρ) ← m (locks 0 args) (args.map some ++ List.replicate (size - args.length) none)
  let fs ← fins ρ 0 args
  match fl with
  | .ret c => R.ok (c, fs)
  | .next => R.ok (Cell.fz .non, fs)
  | _ => R.bad
/-- the j-th argument is the slot j's -/
def ArgsAt (K : PySem.W.Frag) (H : Hp) (w : OM) : Nat → List Cell → List V → Prop
  | _, [], [] => True
  | j, c :: cs, v :: vs => Ow K H w (.sl j) c.k c.d v ∧ ArgsAt K H w (j + 1) cs vs
  | _, _, _ => False
def FinAt (K : PySem.W.Frag) (H : Hp) (w : OM) : Nat → List Cell → List Cell → List V → Prop
  | _, [], [], [] => True
  | j, a :: as, c :: cs, v :: vs => (a.k ≠ 0 → Ow K H w (.sl j) c.k c.d v) ∧ FinAt K H w (j + 1) as cs vs
  | _, _, _, _ => False
def spD (K : PySem.W.Frag) (np : Nat) (f : FD) : Sp := fun vs H Q _ => ∃ (w : OM) (args : List Cell) (r : Cell) (fs : List Cell), args.length = np ∧ ArgsAt K H w 0 args vs ∧ (∀ a, w a ≠ .no → H a ≠ none) ∧ f args = .ok (r, fs) ∧
  ∀ v H' w', (∀ a, w' a ≠ .no → H' a ≠ none) → Step 0 H w H' w' → Ow K H' w' (.tm 0) r.k r.d v → FinAt K H' w' 0 args fs vs → Q v H'
section
variable {K : PySem.W.Frag} {H H' : Hp} {w w' : OM}
theorem ArgsAt.length : ∀ {cs : List Cell} {vs : List V} {j : Nat}, ArgsAt K H w j cs vs → cs.length = vs.length
  | [], [], _, _ => rfl
  | [], _ :: _, _, h => h.elim
  | _ :: _, [], _, h => h.elim
  | c :: cs, v :: vs, j, ⟨_, t⟩ => by rw [List.length_cons, List.length_cons, t.length]
theorem ArgsAt.get : ∀ {cs : List Cell} {vs : List V} {j i : Nat} {c : Cell}, ArgsAt K H w j cs vs → cs[i]? = some c → ∃ v, vs[i]? = some v ∧ Ow K H w (.sl (j + i)) c.k c.d v
  | [], [], _, _, _, _, e => by simp at e
  | [], _ :: _, _, _, _, h, _ => h.elim
  | _ :: _, [], _, _, _, h, _ => h.elim
  | c :: cs, v :: vs, j, 0, c', ⟨h, t⟩, e => by simp at e; subst e; exact ⟨v, rfl, h⟩
  | c :: cs, v :: vs, j, i + 1, c', ⟨h, t⟩, e => by
    obtain ⟨u, h1, h2⟩ := t.get (i := i) (c := c') (by simpa using e)
    exact ⟨u, by simpa using h1, by rw [show j + (i + 1) = j + 1 + i by omega]; exact h2⟩
theorem env_get_map : ∀ {cs : List Cell} {m i : Nat} {c : Cell}, Env.get (cs.map some ++ List.replicate m none) i = some c → cs[i]? = some c
  | [], 0, i, c, h => by cases i <;> cases h
  | [], m + 1, 0, c, h => by cases h
  | [], m + 1, i + 1, c, h => by
    have := env_get_map (cs := []) (m := m) (i := i) (c := c) h
    simp at this
  | a :: cs, m, 0, c, h => by cases h; rfl
  | a :: cs, m, i + 1, c, h => by simpa using env_get_map (cs := cs) (m := m) (i := i) (c := c) h
theorem locks_mem : ∀ {cs : List Cell} {j i : Nat} {c : Cell}, cs[i]? = some c → c.k ≠ 0 → j + i ∈ locks j cs
  | [], _, _, _, e, _ => by simp at e
  | a :: cs, j, 0, c, e, h => by
    simp at e; subst e
    unfold locks
    rw [if_neg h]
    exact List.mem_cons_self ..
  | a :: cs, j, i + 1, c, e, h => by
    have := locks_mem (j := j + 1) (i := i) (c := c) (by simpa using e) h
    rw [show j + (i + 1) = j + 1 + i by omega]
    unfold locks
    split
    · exact this
    · exact List.mem_cons_of_mem _ this
theorem fins_ok {σ σ' : L2.St} {ρ : Env} (ok : Ok K H w σ' ρ) : ∀ {args : List Cell} {vs : List V} {fs : List Cell} {j : Nat}, args.length = vs.length → fins ρ j args = .ok fs → (∀ i v, vs[i]? = some v → σ[j + i]? = some (some v)) →
    (∀ i c, args[i]? = some c → c.k ≠ 0 → σ'[j + i]? = σ[j + i]?) → FinAt K H w j args fs vs
  | [], [], fs, j, _, e, _, _ => by cases e; trivial
  | [], _ :: _, _, _, h, _, _, _ => by simp at h
  | _ :: _, [], _, _, h, _, _, _ => by simp at h
  | a :: as, v :: vs, fs, j, hl, e, hv, hs => by
    obtain ⟨fs', e1, e⟩ := R.of_bind e
    have ih := fins_ok (σ := σ) ok (by simpa using hl) e1 (fun i u hu => by rw [show j + 1 + i = j + (i + 1) by omega]; exact hv (i + 1) u (by simpa using hu)) (fun i c hc hk => by rw [show j + 1 + i = j + (i + 1) by omega]; exact hs (i + 1) c (by simpa using hc) hk)
    split at e
    · cases e
      exact ⟨fun z => absurd (by assumption) z, ih⟩
    · rename_i hk
      split at e
      · rename_i c' hc'
        cases e
        refine ⟨fun _ => ?_, ih⟩
        obtain ⟨u, hu, ow⟩ := ok.slot j c' hc'
        have h0 := hs 0 a rfl hk
        have h1 := hv 0 v rfl
        rw [Nat.add_zero] at h0 h1
        rw [h0, h1] at hu
        cases hu
        exact ow
      · cases e
end
theorem fn_ok {P : Program} {w : World} {K : PySem.W.Frag} {mg : Str → Option Value} {base : Heap} {x qual : Str} {st : Stmt} {f : Addr} {fd : FuncData} {N ps : List Str} {k np size : Nat} {m : MS} (F : Fun K x qual st f fd) (S : FnScope N ps (defScope st)) (hnp : ps.length = np) (hsize : N.length = size)
    (hb : ∀ (cdv : Value) (A : Around) (outer : List PySem.Env) (s : Shared) (H : Hp) (E : XK), Room k (A.deeper (envOfC qual (defScope st) s.heap.objs.size f cdv)) →
      SSs (cxOf CX0 P w K mg base N qual (defScope st) f cdv A outer s H E).nox (defBody st) m) : FnOk P w K mg base CX0 (k + 1) f fd ps (spD K np (runDef size m)) := by
  refine F.ok S (fun vs H Q E h => ?_) (fun cdv A outer s H vs Q E hr h => ?_)
  · obtain ⟨w, args, r, fs, h1, h2, _⟩ := h
    rw [← h2.length, h1, hnp]
  · obtain ⟨w0, args, r, fs, h1, h2, h3, h4, q⟩ := h
    obtain ⟨t, p, g⟩ := (hb cdv A outer s H E hr).ex
    refine ⟨t, p, ?_⟩
    obtain ⟨⟨fl, ρ'⟩, e1, h4⟩ := R.of_bind h4
    obtain ⟨fs', e2, h4⟩ := R.of_bind h4
    have hlv : vs.length = args.length := h2.length.symm
    have hst : ∀ i v, vs[i]? = some v → (L2.start N vs)[i]? = some (some v) := fun i v hv => by
      unfold L2.start
      rw [List.getElem?_append_left (by rw [List.length_map]; exact (List.getElem?_eq_some_iff.mp hv).1), List.getElem?_map, hv]
      rfl
    have ok0 : Ok K H w0 (L2.start N vs) (args.map some ++ List.replicate (size - args.length) none) := by
      refine ⟨?_, fun i c hc => ?_, h3⟩
      · unfold L2.start
        simp only [List.length_append, List.length_map, List.length_replicate]
        rw [hlv, hsize]
      · have hi := env_get_map hc
        obtain ⟨v, hv, ow⟩ := h2.get hi
        rw [Nat.zero_add] at ow
        exact ⟨v, hst i v hv, ow⟩
    refine g 0 (L2.start N vs) H w0 _ (locks 0 args) fl ρ' _ ok0 e1 fun σ' H' w' ok' st' lk => ?_
    have fin := fins_ok (σ := start N vs) ok' (vs := vs) h2.length e2 (fun i v hv => by rw [Nat.zero_add]; exact hst i v hv) (fun i c hc hk => lk _ (locks_mem hc hk))
    cases fl with
    | next =>
      cases h4
      exact q .non H' w' ok'.live st' (.fz .non) fin
    | ret c =>
      cases h4
      exact fun v ow => q v H' w' ok'.live st' ow fin
    | brk => cases h4
    | cont => cases h4

/-! ### a call -/
/-- the arguments as a callee takes them; the slots that it may write, once each -/
def args (ρ : Env) : List Src → R (List Cell)
  | [] => .ok []
  | s :: ss => do
    let cs ← args ρ ss
    match s.cell ρ with
    | some c => R.ok (c :: cs)
    | none => R.bad
def ioSlots (ρ : Env) : List Src → List Nat
  | [] => []
  | .s i :: ss => match ρ.get i with
    | some ⟨_, 0⟩ => ioSlots ρ ss
    | _ => i :: ioSlots ρ ss
  | .v _ :: ss => ioSlots ρ ss
def back (ρ0 : Env) : List Src → List Cell → Env → Env
  | .s i :: ss, c :: cs, ρ => match ρ0.get i with
    | some ⟨_, 0⟩ => back ρ0 ss cs ρ
    | _ => back ρ0 ss cs (ρ.set i (some c))
  | .v _ :: ss, _ :: cs, ρ => back ρ0 ss cs ρ
  | _, _, ρ => ρ
def dupF : List Nat → Bool
  | [] => true
  | i :: r => !r.contains i && dupF r
def mCall (f : FD) (ms : List AE) : AE := fun ρ => do
  let (ss, ρ1) ← evs ms ρ
  let cs ← args ρ1 ss
  if dupF (ioSlots ρ1 ss) then do
    let (r, fs) ← f cs
    R.ok (.v r, back ρ1 ss fs ρ1)
  else R.bad
/-- one label for another -/
theorem Fz.map {K : PySem.W.Frag} {H : Hp} {w w' : OM} {d : D} {v : V} (h : Fz K H w d v) (h0 : ∀ a, w a = .no → w' a = .no) : Fz K H w' d v :=
  h.step (o := .no) fun a x e z => ⟨e, by rcases z with z | z <;> rw [z, h0 a z]⟩
theorem FzL.map {K : PySem.W.Frag} {H : Hp} {w w' : OM} {ds : List D} {vs : List V} (h : FzL K H w ds vs) (h0 : ∀ a, w a = .no → w' a = .no) : FzL K H w' ds vs :=
  h.step (o := .no) fun a x e z => ⟨e, by rcases z with z | z <;> rw [z, h0 a z]⟩
theorem Ow1L.map {K : PySem.W.Frag} {H : Hp} {w w' : OM} {o o' : Own} (h0 : ∀ a, w a = .no → w' a = .no) (h1 : ∀ a, w a = o → w' a = o') : ∀ {ds : List D} {vs : List V}, Ow1L K H w o ds vs → Ow1L K H w' o' ds vs
  | _, _, .nil => .nil
  | _, _, .cons h n t r => .cons h (h1 _ n) (t.map h0) (Ow1L.map h0 h1 r)
theorem Ow.map {K : PySem.W.Frag} {H : Hp} {w w' : OM} {o o' : Own} {k : Nat} {d : D} {v : V} (h : Ow K H w o k d v) (h0 : ∀ a, w a = .no → w' a = .no) (h1 : ∀ a, w a = o → w' a = o') : Ow K H w' o' k d v := by
  cases h with
  | fz h => exact .fz (h.map h0)
  | lst h n t => exact .lst h (h1 _ n) (t.map h0)
  | dct h n e t => exact .dct h (h1 _ n) e (t.map h0)
  | lst2 h n t nd => exact .lst2 h (h1 _ n) (t.map h0 h1) nd
/-- the caller's labels as the callee has them -/
def lab (ρ : Env) : Nat → Nat → List Src → Own → Own
  | _, _, [], o => if o = .no then .no else .out
  | n, j, .v _ :: ss, o => if o = .tm n then .sl j else lab ρ (n + 1) (j + 1) ss o
  | n, j, .s i :: ss, o => match ρ.get i with
    | some ⟨_, 0⟩ => lab ρ (n + 1) (j + 1) ss o
    | _ => if o = .sl i then .sl j else lab ρ (n + 1) (j + 1) ss o
/-- .. and back -/
def unl (ρ : Env) (n : Nat) : Nat → List Src → Own → Own
  | _, [], o => if o = .tm 0 then .tm n else .no
  | j, .v _ :: ss, o => unl ρ n (j + 1) ss o
  | j, .s i :: ss, o => match ρ.get i with
    | some ⟨_, 0⟩ => unl ρ n (j + 1) ss o
    | _ => if o = .sl j then .sl i else unl ρ n (j + 1) ss o
theorem lab_no {ρ : Env} : ∀ {ss : List Src} {n j : Nat}, lab ρ n j ss .no = .no
  | [], _, _ => rfl
  | .v _ :: ss, n, j => by unfold lab; rw [if_neg (by intro z; cases z)]; exact lab_no
  | .s i :: ss, n, j => by
    unfold lab
    split
    · exact lab_no
    · rw [if_neg (by intro z; cases z)]; exact lab_no
theorem lab_out {ρ : Env} {o : Own} : ∀ {ss : List Src} {n j : Nat}, o ≠ .no → (∀ m, n ≤ m → o ≠ .tm m) → (∀ i, i ∈ ioSlots ρ ss → o ≠ .sl i) → lab ρ n j ss o = .out
  | [], _, _, h, _, _ => by unfold lab; rw [if_neg h]
  | .v _ :: ss, n, j, h, ht, hs => by
    unfold lab
    rw [if_neg (ht n (Nat.le_refl n))]
    exact lab_out h (fun m hm => ht m (by omega)) hs
  | .s i :: ss, n, j, h, ht, hs => by
    unfold lab
    split
    · rename_i hc
      refine lab_out h (fun m hm => ht m (by omega)) fun i' hi' => hs i' ?_
      unfold ioSlots
      rw [hc]; exact hi'
    · rename_i hc
      have e : ioSlots ρ (.s i :: ss) = i :: ioSlots ρ ss := by
        rw [ioSlots]
        split
        · rename_i q; exact absurd q (hc _)
        · rfl
      rw [e] at hs
      rw [if_neg (hs i (List.mem_cons_self ..))]
      exact lab_out h (fun m hm => ht m (by omega)) fun i' hi' => hs i' (List.mem_cons_of_mem _ hi')
theorem unl_no {ρ : Env} {n : Nat} : ∀ {ss : List Src} {j : Nat}, unl ρ n j ss .no = .no
  | [], _ => by unfold unl; rw [if_neg (by intro z; cases z)]
  | .v _ :: ss, j => by unfold unl; exact unl_no
  | .s i :: ss, j => by
    unfold unl
    split
    · exact unl_no
    · rw [if_neg (by intro z; cases z)]; exact unl_no
theorem unl_tm {ρ : Env} {n : Nat} : ∀ {ss : List Src} {j : Nat}, unl ρ n j ss (.tm 0) = .tm n
  | [], _ => by unfold unl; rw [if_pos rfl]
  | .v _ :: ss, j => by unfold unl; exact unl_tm
  | .s i :: ss, j => by
    unfold unl
    split
    · exact unl_tm
    · rw [if_neg (by intro z; cases z)]; exact unl_tm
/-- the arguments are the callee's -/
theorem args_at {K : PySem.W.Frag} {H : Hp} {w wc : OM} {σ : L2.St} {ρ : Env} (ok : Ok K H w σ ρ) (h0 : ∀ a, w a = .no → wc a = .no) : ∀ {ss : List Src} {vs : List V} {cs : List Cell} {n j : Nat}, SrcsAt K H w σ n ss vs → args ρ ss = .ok cs → dupF (ioSlots ρ ss) = true →
    (∀ a, (∀ m, n ≤ m → w a = .tm m → wc a = lab ρ n j ss (w a)) ∧ (∀ i, i ∈ ioSlots ρ ss → w a = .sl i → wc a = lab ρ n j ss (w a))) → ArgsAt K H wc j cs vs
  | [], [], cs, n, j, _, e, _, _ => by cases e; trivial
  | [], _ :: _, _, _, _, h, _, _, _ => h.elim
  | _ :: _, [], _, _, _, h, _, _, _ => h.elim
  | s :: ss, v :: vs, cs, n, j, ⟨h, t⟩, e, du, hl => by
    obtain ⟨cs', e1, e⟩ := R.of_bind e
    split at e
    · rename_i c hc
      cases e
      cases s with
      | v c' =>
        cases (show some c' = some c from hc)
        have du' : dupF (ioSlots ρ ss) = true := du
        refine ⟨?_, args_at ok h0 t e1 du' fun a => ⟨fun m hm ha => ?_, fun i hi ha => ?_⟩⟩
        · have h : Ow K H w (.tm n) c.k c.d v := h
          refine h.map h0 fun a ha => ?_
          rw [(hl a).1 n (Nat.le_refl n) ha, ha, lab, if_pos rfl]
        · rw [(hl a).1 m (by omega) ha, ha, lab, if_neg (by intro z; cases z; omega)]
        · rw [(hl a).2 i hi ha, ha, lab, if_neg (by intro z; cases z)]
      | s i =>
        have hc : ρ.get i = some c := hc
        have h : σ[i]? = some (some v) := h
        obtain ⟨u, hu, ow⟩ := ok.slot i c hc
        rw [h] at hu
        cases hu
        by_cases hk : c.k = 0
        · have eio : ioSlots ρ (.s i :: ss) = ioSlots ρ ss := by
            obtain ⟨d, k⟩ := c
            cases hk
            simp only [ioSlots, hc]
          have ela : ∀ o, lab ρ n j (.s i :: ss) o = lab ρ (n + 1) (j + 1) ss o := fun o => by
            obtain ⟨d, k⟩ := c
            cases hk
            simp only [lab, hc]
          rw [eio] at du
          refine ⟨?_, args_at ok h0 t e1 du fun a => ⟨fun m hm ha => ?_, fun i' hi ha => ?_⟩⟩
          · rw [hk] at ow ⊢
            cases ow with
            | fz ow => exact .fz (ow.map h0)
          · rw [(hl a).1 m (by omega) ha, ha, ela]
          · rw [(hl a).2 i' (by rw [eio]; exact hi) ha, ha, ela]
        · have nk : ∀ d, ρ.get i ≠ some ⟨d, 0⟩ := fun d z => by rw [hc] at z; cases z; exact hk rfl
          have eio : ioSlots ρ (.s i :: ss) = i :: ioSlots ρ ss := by
            rw [ioSlots]
            split
            · rename_i q; exact absurd q (nk _)
            · rfl
          have ela : ∀ o, lab ρ n j (.s i :: ss) o = if o = .sl i then .sl j else lab ρ (n + 1) (j + 1) ss o := fun o => by
            rw [lab]
            split
            · rename_i q; exact absurd q (nk _)
            · rfl
          rw [eio] at du hl
          unfold dupF at du
          rw [Bool.and_eq_true] at du
          refine ⟨?_, args_at ok h0 t e1 du.2 fun a => ⟨fun m hm ha => ?_, fun i' hi ha => ?_⟩⟩
          · refine ow.map h0 fun a ha => ?_
            rw [(hl a).2 i (List.mem_cons_self ..) ha, ha, ela, if_pos rfl]
          · rw [(hl a).1 m (by omega) ha, ha, ela, if_neg (by intro z; cases z)]
          · rw [(hl a).2 i' (List.mem_cons_of_mem _ hi) ha, ha, ela, if_neg]
            intro z
            have z : i' = i := by injection z
            subst z
            have : (ioSlots ρ ss).contains i' = true := by simpa using hi
            rw [this] at du
            exact absurd du.1 (by decide)
    · cases e
/-- behind the call: each slot as it was, or what the callee left -/
theorem back_get {K : PySem.W.Frag} {H H2 : Hp} {w wc' : OM} {σ : L2.St} {ρ0 : Env} : ∀ {ss : List Src} {vs : List V} {cs fs : List Cell} {n j : Nat} {ρ : Env} {i : Nat} {c : Cell}, SrcsAt K H w σ n ss vs → args ρ0 ss = .ok cs → FinAt K H2 wc' j cs fs vs →
    (back ρ0 ss fs ρ).get i = some c → (i ∉ ioSlots ρ0 ss ∧ ρ.get i = some c) ∨ ∃ j' v, σ[i]? = some (some v) ∧ Ow K H2 wc' (.sl j') c.k c.d v ∧ unl ρ0 n j ss (.sl j') = .sl i ∧ j ≤ j'
  | [], [], cs, fs, n, j, ρ, i, c, _, e, hf, hb => by
    cases e
    cases fs with
    | nil => exact .inl ⟨by simp [ioSlots], hb⟩
    | cons _ _ => exact hf.elim
  | [], _ :: _, _, _, _, _, _, _, _, h, _, _, _ => h.elim
  | _ :: _, [], _, _, _, _, _, _, _, h, _, _, _ => h.elim
  | s :: ss, v :: vs, cs, fs, n, j, ρ, i, c, ⟨h, t⟩, e, hf, hb => by
    obtain ⟨cs', e1, e⟩ := R.of_bind e
    split at e
    · rename_i c0 hc0
      cases e
      cases fs with
      | nil => exact hf.elim
      | cons f fs =>
        obtain ⟨hf1, hf2⟩ := hf
        cases s with
        | v c' =>
          rcases back_get t e1 hf2 hb with z | ⟨j', u, a1, a2, a3, a4⟩
          · exact .inl z
          · refine .inr ⟨j', u, a1, a2, ?_, by omega⟩
            have : unl ρ0 (n + 1) (j + 1) ss (.sl j') = .sl i := a3
            have gen : ∀ (ss : List Src) (n m j : Nat) (k i : Nat), unl ρ0 n j ss (.sl k) = .sl i → unl ρ0 m j ss (.sl k) = .sl i := by
              intro ss
              induction ss with
              | nil => intro n m j k i z; unfold unl at z; rw [if_neg (by intro z; cases z)] at z; cases z
              | cons s ss ih =>
                intro n m j k i z
                cases s with
                | v _ => exact ih n m (j + 1) k i z
                | s i2 =>
                  unfold unl at z ⊢
                  split
                  · rename_i hq
                    rw [hq] at z
                    exact ih n m (j + 1) k i z
                  · rename_i hq
                    split at z
                    · rename_i q; exact absurd q (hq _)
                    · split at z
                      · rename_i q; rw [if_pos q]; exact z
                      · rename_i q; rw [if_neg q]; exact ih n m (j + 1) k i z
            exact gen ss (n + 1) n (j + 1) j' i a3
        | s i0 =>
          have gen : ∀ (ss : List Src) (n m j : Nat) (k i : Nat), unl ρ0 n j ss (.sl k) = .sl i → unl ρ0 m j ss (.sl k) = .sl i := by
            intro ss
            induction ss with
            | nil => intro n m j k i z; unfold unl at z; rw [if_neg (by intro z; cases z)] at z; cases z
            | cons s ss ih =>
              intro n m j k i z
              cases s with
              | v _ => exact ih n m (j + 1) k i z
              | s i2 =>
                unfold unl at z ⊢
                split
                · rename_i hq
                  rw [hq] at z
                  exact ih n m (j + 1) k i z
                · rename_i hq
                  split at z
                  · rename_i q; exact absurd q (hq _)
                  · split at z
                    · rename_i q; rw [if_pos q]; exact z
                    · rename_i q; rw [if_neg q]; exact ih n m (j + 1) k i z
          have hc0 : ρ0.get i0 = some c0 := hc0
          by_cases hk : c0.k = 0
          · have eio : ioSlots ρ0 (.s i0 :: ss) = ioSlots ρ0 ss := by
              obtain ⟨d, k⟩ := c0
              cases hk
              simp only [ioSlots, hc0]
            have eb : back ρ0 (.s i0 :: ss) (f :: fs) ρ = back ρ0 ss fs ρ := by
              obtain ⟨d, k⟩ := c0
              cases hk
              simp only [back, hc0]
            have eu : ∀ o, unl ρ0 n j (.s i0 :: ss) o = unl ρ0 n (j + 1) ss o := fun o => by
              obtain ⟨d, k⟩ := c0
              cases hk
              simp only [unl, hc0]
            rw [eb] at hb
            rw [eio]
            rcases back_get t e1 hf2 hb with z | ⟨j', u, a1, a2, a3, a4⟩
            · exact .inl z
            · exact .inr ⟨j', u, a1, a2, by rw [eu]; exact gen ss _ _ _ _ _ a3, by omega⟩
          · have nk : ∀ d, ρ0.get i0 ≠ some ⟨d, 0⟩ := fun d z => by rw [hc0] at z; cases z; exact hk rfl
            have eio : ioSlots ρ0 (.s i0 :: ss) = i0 :: ioSlots ρ0 ss := by
              rw [ioSlots]
              split
              · rename_i q; exact absurd q (nk _)
              · rfl
            have eb : back ρ0 (.s i0 :: ss) (f :: fs) ρ = back ρ0 ss fs (ρ.set i0 (some f)) := by
              rw [back]
              split
              · rename_i q; exact absurd q (nk _)
              · rfl
            have eu : ∀ o, unl ρ0 n j (.s i0 :: ss) o = if o = .sl j then .sl i0 else unl ρ0 n (j + 1) ss o := fun o => by
              rw [unl]
              split
              · rename_i q; exact absurd q (nk _)
              · rfl
            rw [eb] at hb
            rw [eio]
            rcases back_get t e1 hf2 hb with ⟨z1, z2⟩ | ⟨j', u, a1, a2, a3, a4⟩
            · rcases Env.get_set z2 with ⟨e3, e4⟩ | ⟨e3, e4⟩
              · subst e3
                cases e4
                exact .inr ⟨j, v, h, hf1 hk, by rw [eu, if_pos rfl], Nat.le_refl j⟩
              · exact .inl ⟨by simp [e3, z1], e4⟩
            · exact .inr ⟨j', u, a1, a2, by rw [eu, if_neg (by intro z; cases z; omega)]; exact gen ss _ _ _ _ _ a3, by omega⟩
    · cases e
theorem back_length {ρ0 : Env} : ∀ {ss : List Src} {fs : List Cell} {ρ : Env}, (back ρ0 ss fs ρ).length = ρ.length
  | [], _, _ => rfl
  | .v _ :: ss, [], _ => rfl
  | .s _ :: ss, [], _ => rfl
  | .v _ :: ss, _ :: fs, ρ => by rw [back]; exact back_length
  | .s i :: ss, c :: fs, ρ => by
    rw [back]
    split
    · exact back_length
    · rw [back_length, Env.length_set]
theorem mCall_ok {f : FD} {ms : List AE} {ρ ρ' : Env} {s : Src} (h : mCall f ms ρ = .ok (s, ρ')) : ∃ ss ρ1 cs r fs, evs ms ρ = .ok (ss, ρ1) ∧ args ρ1 ss = .ok cs ∧ dupF (ioSlots ρ1 ss) = true ∧ f cs = .ok (r, fs) ∧ s = .v r ∧ ρ' = back ρ1 ss fs ρ1 := by
  obtain ⟨⟨ss, ρ1⟩, e1, h⟩ := R.of_bind h
  obtain ⟨cs, e2, h⟩ := R.of_bind h
  dsimp only at h e2
  split at h
  · obtain ⟨⟨r, fs⟩, e3, h⟩ := R.of_bind h
    cases h
    exact ⟨ss, ρ1, cs, r, fs, e1, e2, by assumption, e3, rfl, rfl⟩
  · cases h
theorem args_length {ρ : Env} : ∀ {ss : List Src} {cs : List Cell}, args ρ ss = .ok cs → cs.length = ss.length
  | [], _, e => by cases e; rfl
  | s :: ss, cs, e => by
    obtain ⟨cs', e1, e⟩ := R.of_bind e
    split at e
    · cases e; rw [List.length_cons, List.length_cons, args_length e1]
    · cases e
/-- the callee's promise serves the caller -/
theorem call_sem {K : PySem.W.Frag} {n np : Nat} {H : Hp} {w : OM} {σ : L2.St} {ρ : Env} {ss : List Src} {vs : List V} {cs : List Cell} {f : FD} {r : Cell} {fs : List Cell} {Q : VK} {E : XK} (ok : Ok K H w σ ρ) (sa : SrcsAt K H w σ n ss vs) (ha : args ρ ss = .ok cs) (hd : dupF (ioSlots ρ ss) = true) (hf : f cs = .ok (r, fs)) (hnp : ss.length = np)
    (k : ∀ v H' w', Ok K H' w' σ (back ρ ss fs ρ) → Step n H w H' w' → Ow K H' w' (.tm n) r.k r.d v → Q v H') : spD K np f vs H Q E := by
  refine ⟨fun a => lab ρ n 0 ss (w a), cs, r, fs, by rw [args_length ha]; exact hnp, ?_, fun a h => ok.live a fun z => h (by show lab ρ n 0 ss (w a) = _; rw [z]; exact lab_no), hf, fun v H' wc' live' st ow fin => ?_⟩
  · exact args_at ok (fun a z => by show lab ρ n 0 ss (w a) = _; rw [z]; exact lab_no) sa ha hd fun a => ⟨fun _ _ _ => rfl, fun _ _ _ => rfl⟩
  · have wd : ∀ a, wc' a ≠ .out → (if wc' a = .out then w a else unl ρ n 0 ss (wc' a)) = unl ρ n 0 ss (wc' a) := fun a h => if_neg h
    have keep : ∀ a x, H a = some x → lab ρ n 0 ss (w a) = .out → H' a = some x ∧ (if wc' a = .out then w a else unl ρ n 0 ss (wc' a)) = w a := fun a x e h => by
      obtain ⟨h1, h2⟩ := st a x e (by show Fixed 0 (lab ρ n 0 ss (w a)); rw [h]; exact .inr (.inl rfl))
      exact ⟨h1, if_pos (h2.trans h)⟩
    have keepNo : ∀ a x, H a = some x → w a = .no → H' a = some x ∧ (if wc' a = .out then w a else unl ρ n 0 ss (wc' a)) = w a := fun a x e h => by
      have hl : lab ρ n 0 ss (w a) = .no := by rw [h]; exact lab_no
      obtain ⟨h1, h2⟩ := st a x e (by show Fixed 0 (lab ρ n 0 ss (w a)); rw [hl]; exact .inl rfl)
      have h3 : wc' a = .no := h2.trans hl
      exact ⟨h1, by rw [h3, if_neg (by intro z; cases z), unl_no, h]⟩
    have stn : Step n H w H' (fun a => if wc' a = .out then w a else unl ρ n 0 ss (wc' a)) := fun a x e f => by
      rcases f with f | f | ⟨j, hj, f⟩
      · exact keepNo a x e f
      · exact keep a x e (by rw [f]; exact lab_out (by intro z; cases z) (fun m _ z => by cases z) fun i _ z => by cases z)
      · exact keep a x e (by rw [f]; exact lab_out (by intro z; cases z) (fun m hm z => by cases z; omega) fun i _ z => by cases z)
    refine k v H' _ ⟨by rw [back_length]; exact ok.len, fun i c hc => ?_, fun a h => live' a fun z => h ?_⟩ stn ?_
    · rcases back_get sa ha fin hc with ⟨z1, z2⟩ | ⟨j', u, a1, a2, a3, _⟩
      · obtain ⟨u, hu, ow⟩ := ok.slot i c z2
        refine ⟨u, hu, ow.step fun a x e z => ?_⟩
        rcases z with z | z
        · exact keepNo a x e z
        · exact keep a x e (by rw [z]; exact lab_out (by intro z; cases z) (fun m _ z => by cases z) fun i' hi' z => by cases z; exact z1 hi')
      · refine ⟨u, a1, a2.map (fun a z => ?_) fun a z => ?_⟩
        · show (if wc' a = .out then w a else unl ρ n 0 ss (wc' a)) = _
          rw [z, if_neg (by intro z; cases z), unl_no]
        · show (if wc' a = .out then w a else unl ρ n 0 ss (wc' a)) = _
          rw [z, if_neg (by intro z; cases z), a3]
    · show (if wc' a = .out then w a else unl ρ n 0 ss (wc' a)) = _
      rw [z, if_neg (by intro z; cases z), unl_no]
    · refine ow.map (fun a z => ?_) fun a z => ?_
      · show (if wc' a = .out then w a else unl ρ n 0 ss (wc' a)) = _
        rw [z, if_neg (by intro z; cases z), unl_no]
      · show (if wc' a = .out then w a else unl ρ n 0 ss (wc' a)) = _
        rw [z, if_neg (by intro z; cases z), unl_tm]
section
variable {X : Cx}
/-- f(e, ..) -/
theorem sa_call {x : Str} {p pos : Pos} {e : Expr} {es : List Expr} {ms : List AE} {f : FD} {fa : Addr} {fd : FuncData} {ps : List Str} {k np : Nat} (F : FnOk X.prog X.w X.K X.mg X.base CX0 k fa fd ps (spD X.K np f)) (hr : Room k X.A) (hm : X.mg x = some (.ref fa)) (hk : PySem.W.keepIn X.K (.ref fa) = true) (hb : Binds X.K fd ps [])
    (ha : SAs X (e :: es) ms) (hl : ms.length = np := by rfl) (hg : Gl X x := by rfl) (hdb : (x == ("__debug__" : Str)) = false := by decide) (he : starEach (e :: es) X.env = (false, eval e X.env) :: starEach es X.env := by rfl) (hpl : (backTo pos (starEach es X.env)).any (·.1) = false := by rfl) :
    SA X (.Call (.Name x p) (e :: es) [] pos) (mCall f ms) := by
  obtain ⟨t, q, g⟩ := ha.ex
  refine ⟨_, pe_call F hr hg hm hk hb .nil pass0 q hdb he hpl, fun n σ H w ρ s ρ' Q ok hm k => ?_⟩
  obtain ⟨ss, ρ1, cs, r, fs, e1, e2, e3, e4, rfl, rfl⟩ := mCall_ok hm
  refine g n σ H w ρ ss ρ1 _ ok e1 fun vs H1 w1 ok1 st1 sa => ?_
  rw [List.append_nil]
  exact call_sem ok1 sa e2 e3 e4 (by rw [evs_length e1]; exact hl) fun v H' w' ok' st' ow => k v H' w' ok' (st1.trans st') ow
end
end Z

/-! ZA: stores, methods. -/
namespace Z
open PySem PySem.Spec PyProof.Rows L2

section
variable {K : PySem.W.Frag} {H : Hp} {w : OM} {σ : L2.St} {ρ : Env}
/-- the list at slot i is changed -/
theorem Ok.putLst {i : Nat} {a : Addr} {l l' : List D} {vs' : List V} (ok : Ok K H w σ ρ) (hi : ρ.get i = some ⟨.lst l, 1⟩) (hs : σ[i]? = some (some (.ref a))) (hw : w a = .sl i) (f : FzL K H w l' vs') :
    Ok K (upd H a (.lst vs')) w σ (ρ.set i (some ⟨.lst l', 1⟩)) := by
  have h0 : w a ≠ .no := by rw [hw]; intro z; cases z
  refine ⟨by rw [Env.length_set]; exact ok.len, fun j x q => ?_, fun b h => ?_⟩
  · rcases Env.get_set q with ⟨ej, z⟩ | ⟨hj, z⟩
    · subst ej
      cases z
      exact ⟨_, hs, .lst upd_same hw (f.step (Kp.write (o1 := .no) h0 h0))⟩
    · obtain ⟨u, e1, q⟩ := ok.slot j x z
      exact ⟨u, e1, q.step (Kp.write h0 (by rw [hw]; intro z; cases z; exact hj rfl))⟩
  · by_cases z : b = a
    · subst z; rw [upd_same]; exact fun q => nomatch q
    · rw [upd_ne z]; exact ok.live b h
theorem Ok.slotLst {i : Nat} {l : List D} (ok : Ok K H w σ ρ) (hi : ρ.get i = some ⟨.lst l, 1⟩) : ∃ a vs, σ[i]? = some (some (.ref a)) ∧ H a = some (.lst vs) ∧ w a = .sl i ∧ FzL K H w l vs := by
  obtain ⟨v, e, ow⟩ := ok.slot i _ hi
  cases ow with
  | lst h n t => exact ⟨_, _, e, h, n, t⟩
end
section
variable {X : Cx} {pos : Pos}
/-! ### x[i] = v, a list -/
def setD (l : List D) (i : Int) (d : D) : Option (List D) := (ixN l.length i).map fun j => l.set j d
def mSetIx (i : Nat) (mi mv : AE) : MS := fun _ ρ => do
  let (sv, ρ1) ← mv ρ
  let (c, ρ2) ← esc sv ρ1
  match ρ2.get i with
  | some _ => do
    let (si, ρ3) ← mi ρ2
    match si.cell ρ3, ρ3.get i with
    | some ⟨.int k, _⟩, some ⟨.lst l, 1⟩ => match setD l k c.d with
      | some l' => R.ok (.next, ρ3.set i (some ⟨.lst l', 1⟩))
      | none => R.bad
    | _, _ => R.bad
  | none => R.bad
theorem setD_ok {K : PySem.W.Frag} {H : Hp} {w : OM} {l l' : List D} {vs : List V} {k : Int} {d : D} {v : V} (e : setD l k d = some l') (f : FzL K H w l vs) (fd : Fz K H w d v) : ∃ j, ixN vs.length k = some j ∧ FzL K H w l' (vs.set j v) := by
  unfold setD at e
  rw [f.length] at e
  cases q : ixN vs.length k with
  | none => rw [q] at e; cases e
  | some j =>
    rw [q] at e
    cases e
    exact ⟨j, rfl, f.set fd j⟩
theorem ss_setIxL {i : Nat} {x : Str} {e b : Expr} {mi mv : AE} {p tp : Pos} (hN : X.N[i]? = some x) (hv : Vis X.env.scope x) (hd : (x == ("__debug__" : Str)) = false) (hcd : (x == ("__classdict__" : Str)) = false) (he : SA X e mv) (hb : SA X b mi)
    (hs : swapsWithSole [.Subscript (.Name x p) b tp] e pos.line X.env = pure false) (hw : swappedStores [.Subscript (.Name x p) b tp] e X.env = pure none)
    (ha : ∀ v, assign (.Subscript (.Name x p) b tp) X.env v = (do
      let ov ← holding [v] (eval (.Name x p) X.env)
      let iv ← holding [v, ov] (eval b X.env)
      standAt tp
      holding [v, ov, iv] (setItem ov iv v)
      release [v, ov, iv] [])) (h1 : (assignEach [.Subscript (.Name x p) b tp] X.env).map (·.2) = [assign (.Subscript (.Name x p) b tp) X.env]) :
    SS X (.Assign [.Subscript (.Name x p) b tp] e pos) (mSetIx i mi mv) := by
  obtain ⟨t, q, g⟩ := he.ex
  obtain ⟨u, r, g2⟩ := hb.ex
  refine ⟨_, ps_asg q (pg_sub (pe_var hN hv hd hcd) r set_list ha) hs hw h1, fun n σ H w ρ L fl ρ' D ok hm k => ?_⟩
  obtain ⟨⟨sv, ρ1⟩, e1, hm⟩ := R.of_bind hm
  obtain ⟨⟨c, ρ2⟩, e2, hm⟩ := R.of_bind hm
  dsimp only at hm
  split at hm
  · rename_i c0 hc0
    obtain ⟨⟨si, ρ3⟩, e3, hm⟩ := R.of_bind hm
    dsimp only at hm
    split at hm
    · rename_i kk _ l hck hcl
      split at hm
      · rename_i l' hl'
        cases hm
        refine g n σ H w ρ sv _ _ ok e1 fun v H1 w1 ok1 st1 sa => ?_
        obtain ⟨w2, ok2, st2, ow, _⟩ := esc_ok ok1 sa e2
        have ok3 : Ok X.K H1 (w2.re (.tm n) .no) σ ρ2 := ok2.re (by intro z; cases z) (by intro i z; cases z)
        have fz3 : Fz X.K H1 (w2.re (.tm n) .no) c.d v := ow.freeze (by intro z; cases z)
        have st3 : Step n H w H1 (w2.re (.tm n) .no) := (st1.trans (st2 n)).trans (Step.re not_fixed_tm)
        obtain ⟨vo, eo, _⟩ := ok3.slot i c0 hc0
        refine ⟨vo, eo, g2 n σ H1 _ ρ2 si _ _ ok3 e3 fun vi H4 w4 ok4 st4 sa4 => ?_⟩
        obtain ⟨o, _, h1⟩ := sa4.cell ok4 hck
        cases ow_int h1
        obtain ⟨a, vs, ea, hH, hwa, fl4⟩ := ok4.slotLst hcl
        rw [eo] at ea
        cases ea
        obtain ⟨j, hj, f5⟩ := setD_ok hl' fl4 (st4.fz fz3)
        refine ⟨a, vs, kk, j, rfl, rfl, hH, hj, ?_⟩
        exact k σ _ w4 (ok4.putLst hcl eo hwa f5) ((st3.trans st4).trans (Step.write (by rw [hwa]; exact not_fixed_sl))) fun _ _ => rfl
      · cases hm
    · cases hm
  · cases hm
/-! ### x[i] = v, a dict -/
def dPut : List Key → List D → Key → D → List Key × List D
  | k :: ks, d :: ds, q, v => if k = q then (k :: ks, v :: ds) else
    let r := dPut ks ds q v
    (k :: r.1, d :: r.2)
  | _, _, q, v => ([q], [v])
/-! ### name op= e -/
def mAug (i : Nat) (f : List Cell → R Cell) (m : AE) : MS := fun L ρ => match ρ.get i with
  | some c0 => do
    let (s, ρ1) ← m ρ
    match s.cell ρ1 with
    | some c => do
      let r ← f [⟨c0.d, 0⟩, c]
      if c0.k = 0 then (if L.contains i then R.bad else R.ok (.next, ρ1.set i (some r))) else R.bad
    | none => R.bad
  | none => R.bad
theorem ss_aug {i : Nat} {x : Str} {e : Expr} {m : AE} {op : Operator} {f : List Cell → R Cell} {r : R2} {pos' : Pos} (ho : OpR X (inplaceOp op) r) (hs : CallS X (r2L r) f) (hN : X.N.Nodup) (he : SA X e m) (hi : X.N[i]? = some x := by rfl) (hx : Loc X.env.scope x := by first | exact Or.inl rfl | exact Or.inr rfl)
    (hf : X.fn x = true ∨ X.env.scope.names.lookup x = some .local := by first | exact .inl rfl | exact .inr rfl) : SS X (.AugAssign (.Name x pos') op e pos) (mAug i f m) := by
  obtain ⟨t, q, g⟩ := he.ex
  refine ⟨_, ps_aug hN hi hx q ho hf, fun n σ H w ρ L fl ρ' D ok hm k => ?_⟩
  unfold mAug at hm
  split at hm
  · rename_i c0 hc0
    obtain ⟨⟨s, ρ1⟩, e1, hm⟩ := R.of_bind hm
    dsimp only at hm
    split at hm
    · rename_i c hc
      obtain ⟨rr, e2, hm⟩ := R.of_bind hm
      split at hm
      · rename_i hk
        split at hm
        · cases hm
        · rename_i hL
          cases hm
          obtain ⟨v0, ev0, ow0⟩ := ok.slot i c0 hc0
          have fz0 : Fz X.K H w c0.d v0 := by
            rw [hk] at ow0
            cases ow0 with | fz h => exact h
          refine ⟨v0, ev0, g n σ H w ρ s _ _ ok e1 fun v H1 w1 ok1 st1 sa => ?_⟩
          obtain ⟨o, hno, ow⟩ := sa.cell ok1 hc
          refine hs n H1 w1 σ _ _ [v0, v] rr _ ok1 (.cons (o := .tm n) (by intro z; cases z) (.fz (st1.fz fz0)) (.cons hno ow .nil)) e2 fun v2 H2 w2 ok2 st2 ow2 => ?_
          exact k _ H2 _ (ok2.store (i := i) ow2) ((st1.trans st2).trans (Step.re not_fixed_tm)) (set_keep (by simpa using hL))
      · cases hm
    · cases hm
  · cases hm
theorem iop_addAll : OpR X (inplaceOp .Add) (fun x y H Q => (rI0 (fun i j => .int (i + j)) x y H Q) ∨ (∃ i j, x = .str i ∧ y = .str j ∧ i.length + j.length ≤ sizeLine ∧ Q (.str (i ++ j)) H)) := iop_add.or iop_add_str
def fIAdd : List Cell → R Cell
  | [⟨.int i, _⟩, ⟨.int j, _⟩] => .ok (Cell.fz (.int (i + j)))
  | [⟨.str x, _⟩, ⟨.str y, _⟩] => if x.length + y.length ≤ 16777216 then .ok (Cell.fz (.str (x ++ y))) else .bad
  | _ => .bad
theorem s_iadd : CallS X (r2L fun x y H Q => (rI0 (fun i j => .int (i + j)) x y H Q) ∨ (∃ i j, x = .str i ∧ y = .str j ∧ i.length + j.length ≤ sizeLine ∧ Q (.str (i ++ j)) H)) fIAdd := by
  intro n H w σ ρ cs vs c Q ok ow e k
  unfold fIAdd at e
  split at e
  · cases e
    obtain ⟨v, u, o, q, rfl, h1, h2⟩ := ow.two
    cases ow_int h1
    cases ow_int h2
    exact .inl ⟨_, _, rfl, rfl, k _ H w ok Step.refl (.fz (.int _))⟩
  · split at e
    · cases e
      obtain ⟨v, u, o, q, rfl, h1, h2⟩ := ow.two
      cases ow_str h1
      cases ow_str h2
      exact .inr ⟨_, _, rfl, rfl, by rw [sizeLine_eq]; assumption, k _ H w ok Step.refl (.fz (.str _))⟩
    · cases e
  · cases e
/-! ### x[i] op= e, a list of ints -/
def mAugIx (i : Nat) (mi : AE) (f : List Cell → R Cell) (mv : AE) : MS := fun _ ρ => match ρ.get i with
  | some _ => do
    let (si, ρ1) ← mi ρ
    match si.cell ρ1, ρ1.get i with
    | some ⟨.int kk, _⟩, some ⟨.lst l, 1⟩ => match atI l kk with
      | some (.int old) => do
        let (sv, ρ2) ← mv ρ1
        match sv.cell ρ2 with
        | some c => do
          let r ← f [⟨.int old, 0⟩, c]
          match r, ρ2.get i with
          | ⟨.int new, _⟩, some ⟨.lst l2, 1⟩ => match setD l2 kk (.int new) with
            | some l' => R.ok (.next, ρ2.set i (some ⟨.lst l', 1⟩))
            | none => R.bad
          | _, _ => R.bad
        | none => R.bad
      | _ => R.bad
    | _, _ => R.bad
  | none => R.bad
theorem ss_augIx {i : Nat} {x : Str} {b e : Expr} {mi mv : AE} {op : Operator} {f : List Cell → R Cell} {r : R2} {p tp : Pos} (ho : OpR X (inplaceOp op) r) (hs : CallS X (r2L r) f) (hb : SA X b mi) (he : SA X e mv) (hN : X.N[i]? = some x := by rfl) (hv : Vis X.env.scope x := by first | exact Or.inl rfl | exact Or.inr (Or.inl rfl) | exact Or.inr (Or.inr rfl)) (hd : (x == ("__debug__" : Str)) = false := by decide) (hcd : (x == ("__classdict__" : Str)) = false := by decide)
    (ha : ∀ ov iv new, augStore b ov iv new = (do holding [new, ov, iv] (setItem ov iv new); release [new, ov, iv] []; pure .next) := by intros; rfl) : SS X (.AugAssign (.Subscript (.Name x p) b tp) op e pos) (mAugIx i mi f mv) := by
  obtain ⟨t, q, g⟩ := hb.ex
  obtain ⟨u, q2, g2⟩ := he.ex
  refine ⟨_, ps_augS (pe_var hN hv hd hcd) q get_list q2 ho set_list ha, fun n σ H w ρ L fl ρ' D ok hm k => ?_⟩
  unfold mAugIx at hm
  split at hm
  · rename_i c0 hc0
    obtain ⟨v0, ev0, _⟩ := ok.slot i c0 hc0
    obtain ⟨⟨si, ρ1⟩, e1, hm⟩ := R.of_bind hm
    dsimp only at hm
    split at hm
    · rename_i kk _ l hck hcl
      split at hm
      · rename_i old hold
        obtain ⟨⟨sv, ρ2⟩, e2, hm⟩ := R.of_bind hm
        dsimp only at hm
        split at hm
        · rename_i c hc
          obtain ⟨rr, e3, hm⟩ := R.of_bind hm
          split at hm
          · rename_i new _ l2 hcl2
            split at hm
            · rename_i l' hl'
              cases hm
              refine ⟨v0, ev0, g n σ H w ρ si _ _ ok e1 fun vi H1 w1 ok1 st1 sa => ?_⟩
              obtain ⟨o, _, h1⟩ := sa.cell ok1 hck
              cases ow_int h1
              obtain ⟨a, vs, ea, hH, hwa, fl1⟩ := ok1.slotLst hcl
              rw [ev0] at ea
              cases ea
              obtain ⟨vold, hvo, fo⟩ := atI_fz fl1 hold
              cases fo
              refine ⟨a, vs, kk, _, rfl, rfl, .inl (.inl hH), hvo, ?_⟩
              refine g2 n σ H1 w1 ρ1 sv _ _ ok1 e2 fun v2 H2 w2 ok2 st2 sa2 => ?_
              obtain ⟨o2, hno2, h2⟩ := sa2.cell ok2 hc
              refine hs n H2 w2 σ _ _ [.int old, v2] _ _ ok2 (.cons (o := .tm n) (by intro z; cases z) (.fz (.int old)) (.cons hno2 h2 .nil)) e3 fun v3 H3 w3 ok3 st3 ow3 => ?_
              cases ow_int ow3
              obtain ⟨a3, vs3, ea3, hH3, hwa3, fl3⟩ := ok3.slotLst hcl2
              rw [ev0] at ea3
              cases ea3
              obtain ⟨j, hj, f5⟩ := setD_ok hl' fl3 (.int new)
              refine ⟨a, vs3, kk, j, rfl, rfl, hH3, hj, ?_⟩
              exact k σ _ w3 (ok3.putLst hcl2 ev0 hwa3 f5) (((st1.trans st2).trans st3).trans (Step.write (by rw [hwa3]; exact not_fixed_sl))) fun _ _ => rfl
            · cases hm
          · cases hm
        · cases hm
      · cases hm
    · cases hm
  · cases hm

/-! ### methods of a list that stands in a slot -/
/-- f: the items, the arguments; what comes back, the items behind -/
def MethS (X : Cx) (r : V → List V → Hp → VK → Prop) (f : List D → List D → R (D × List D)) : Prop :=
  ∀ (H : Hp) (w : OM) (a : Addr) (vs us : List V) (l ds : List D) (d : D) (l' : List D) (Q : VK), H a = some (.lst vs) → FzL X.K H w l vs → FzL X.K H w ds us → f l ds = .ok (d, l') →
    (∀ v vs', Fz X.K H w d v → FzL X.K H w l' vs' → Q v (upd H a (.lst vs'))) → r (.ref a) us H Q
def mMeth (i : Nat) (f : List D → List D → R (D × List D)) (ms : List AE) : AE := fun ρ => match ρ.get i with
  | some ⟨.lst _, 1⟩ => do
    let (ss, ρ1) ← evs ms ρ
    let (ds, ρ2) ← escs ss ρ1
    match ρ2.get i with
    | some ⟨.lst l, 1⟩ => do
      let (d, l') ← f l ds
      R.ok (.v (Cell.fz d), ρ2.set i (some ⟨.lst l', 1⟩))
    | _ => R.bad
  | _ => R.bad
theorem meth_sem {i : Nat} {f : List D → List D → R (D × List D)} {ms : List AE} {r : V → List V → Hp → VK → Prop} {t : TA} (hs : MethS X r f)
    (g : ∀ (n : Nat) (σ : L2.St) (H : Hp) (w : OM) (ρ : Env) (ss : List Src) (ρ' : Env) (Q : List V → Hp → Prop), Ok X.K H w σ ρ → evs ms ρ = .ok (ss, ρ') →
      (∀ vs H' w', Ok X.K H' w' σ ρ' → Step n H w H' w' → SrcsAt X.K H' w' σ n ss vs → Q vs H') → t σ H Q) :
    ∀ (n : Nat) (σ : L2.St) (H : Hp) (w : OM) (ρ : Env) (s : Src) (ρ' : Env) (Q : VK), Ok X.K H w σ ρ → mMeth i f ms ρ = .ok (s, ρ') →
    (∀ v H' w', Ok X.K H' w' σ ρ' → Step n H w H' w' → SrcAt X.K H' w' σ n s v → Q v H') → ∃ x, σ[i]? = some (some x) ∧ tyV X.K "list" x H ∧ t σ H fun xs H2 => r x xs H2 Q := by
  intro n σ H w ρ s ρ' Q ok hm k
  unfold mMeth at hm
  split at hm
  · rename_i l0 hl0
    obtain ⟨⟨ss, ρ1⟩, e1, hm⟩ := R.of_bind hm
    obtain ⟨⟨ds, ρ2⟩, e2, hm⟩ := R.of_bind hm
    dsimp only at hm e2
    split at hm
    · rename_i l hl
      obtain ⟨⟨d, l'⟩, e3, hm⟩ := R.of_bind hm
      cases hm
      obtain ⟨a, vs0, ea, hH0, _, _⟩ := ok.slotLst hl0
      refine ⟨_, ea, .inl ⟨rfl, vs0, .inl (.inl hH0)⟩, ?_⟩
      refine g n σ H w ρ ss _ _ ok e1 fun us H1 w1 ok1 st1 sa => ?_
      obtain ⟨w2, ok2, st2, fd⟩ := escs_ok ok1 sa e2
      obtain ⟨a2, vs, ea2, hH2, hwa2, fl2⟩ := ok2.slotLst hl
      rw [ea] at ea2
      cases ea2
      refine hs H1 w2 a vs us l ds d l' Q hH2 fl2 fd e3 fun v vs' fv fl' => ?_
      have h0 : w2 a ≠ .no := by rw [hwa2]; intro z; cases z
      exact k v _ w2 (ok2.putLst hl ea hwa2 fl') ((st1.trans st2).trans (Step.write (by rw [hwa2]; exact not_fixed_sl))) (.fz (fv.step (Kp.write (o1 := .no) h0 h0)))
    · cases hm
  · cases hm
theorem sa_meth {i : Nat} {x name : Str} {id : String} {e : Expr} {es : List Expr} {ms : List AE} {f : List D → List D → R (D × List D)} {r : V → List V → Hp → VK → Prop} {p apos cpos : Pos} (slot : Slot "list" name id) (hty : typeOf (.builtin id) = pure (.type "method_descriptor")) (hm : MtR X id r) (hs : MethS X r f) (ha : SAs X (e :: es) ms)
    (hN : X.N[i]? = some x := by rfl) (hv : Vis X.env.scope x := by first | exact Or.inl rfl | exact Or.inr (Or.inl rfl) | exact Or.inr (Or.inr rfl)) (hd : (x == ("__debug__" : Str)) = false := by decide) (hcd : (x == ("__classdict__" : Str)) = false := by decide)
    (hbase : attributeBase (.Name x p) name X.env (eval (.Name x p) X.env) = eval (.Name x p) X.env := by rfl)
    (hfew : ((backTo cpos (starEach (e :: es) X.env)).all (fun x => !x.1) && (backToKw cpos (keywordEach [] X.env)).all (fun x => x.1.isSome)
      && decide ((e :: es).length + ([] : List Keyword).length + (if ([] : List Keyword).isEmpty then 0 else 1) < 30)) = true := by rfl)
    (hline : (apos.endLine == cpos.line) = true := by rfl) (hst : starEach (e :: es) X.env = (false, eval e X.env) :: starEach es X.env := by rfl) (hplain : (backTo cpos (starEach es X.env)).any (·.1) = false := by rfl) :
    SA X (.Call (.Attribute (.Name x p) name apos) (e :: es) [] cpos) (mMeth i f ms) := by
  obtain ⟨t, q, g⟩ := ha.ex
  exact ⟨_, pe_bm PySem.F.plainAttrs_list slot hty hm (pe_var hN hv hd hcd) q hbase hfew hline hst hplain, fun n σ H w ρ s ρ' Q ok hm k => meth_sem hs g n σ H w ρ s ρ' Q ok hm k⟩
theorem sa_meth0 {i : Nat} {x name : Str} {id : String} {f : List D → List D → R (D × List D)} {r : V → List V → Hp → VK → Prop} {p apos cpos : Pos} (slot : Slot "list" name id) (hty : typeOf (.builtin id) = pure (.type "method_descriptor")) (hm : MtR X id r) (hs : MethS X r f)
    (hN : X.N[i]? = some x := by rfl) (hv : Vis X.env.scope x := by first | exact Or.inl rfl | exact Or.inr (Or.inl rfl) | exact Or.inr (Or.inr rfl)) (hd : (x == ("__debug__" : Str)) = false := by decide) (hcd : (x == ("__classdict__" : Str)) = false := by decide)
    (hbase : attributeBase (.Name x p) name X.env (eval (.Name x p) X.env) = eval (.Name x p) X.env := by rfl) (hline : (apos.endLine == cpos.line) = true := by rfl) :
    SA X (.Call (.Attribute (.Name x p) name apos) [] [] cpos) (mMeth i f []) := by
  have g := (sas_nil (X := X)).ex
  obtain ⟨t, q, g⟩ := g
  refine ⟨_, pe_bm0 PySem.F.plainAttrs_list slot hty hm (pe_var hN hv hd hcd) hbase hline, fun n σ H w ρ s ρ' Q ok hm k => ?_⟩
  have z := meth_sem (t := tNil) hs (fun n σ H w ρ ss ρ' Q ok h k => by cases h; exact k [] H w ok Step.refl trivial) n σ H w ρ s ρ' Q ok hm k
  exact z
def fAppend (l ds : List D) : R (D × List D) := match ds with
  | [d] => if l.length < 16777216 then .ok (.non, l ++ [d]) else .bad
  | _ => .bad
theorem s_append : MethS X rAppend fAppend := by
  intro H w a vs us l ds d l' Q hH fl fd e k
  unfold fAppend at e
  split at e
  · split at e
    · rename_i hl
      cases e
      cases fd with
      | cons f1 f2 =>
        cases f2
        exact ⟨a, vs, _, rfl, rfl, hH, by rw [sizeLine_eq, ← fl.length]; exact hl, k _ _ .non (fl.append (.cons f1 .nil))⟩
    · cases e
  · cases e
def fExtend (l ds : List D) : R (D × List D) := match ds with
  | [.lst m] => if l.length + m.length ≤ 16777216 then .ok (.non, l ++ m) else .bad
  | _ => .bad
theorem s_extend : MethS X rExtend fExtend := by
  intro H w a vs us l ds d l' Q hH fl fd e k
  unfold fExtend at e
  split at e
  · split at e
    · rename_i hl
      cases e
      cases fd with
      | cons f1 f2 =>
        cases f2
        cases f1 with
        | lst hb nb fb => exact ⟨a, _, vs, _, rfl, rfl, hH, hb, by rw [sizeLine_eq, ← fl.length, ← fb.length]; exact hl, k _ _ .non (fl.append fb)⟩
    · cases e
  · cases e
/-- pop(), pop(i) -/
def fPop0 (l ds : List D) : R (D × List D) := match ds with
  | [] => match l[l.length - 1]? with
    | some d => .ok (d, l.dropLast)
    | none => .bad
  | _ => .bad
theorem s_pop0 : MethS X rPop fPop0 := by
  intro H w a vs us l ds d l' Q hH fl fd e k
  unfold fPop0 at e
  split at e
  · split at e
    · rename_i hl
      cases e
      cases fd
      obtain ⟨v, hv, fv⟩ := fl.get hl
      exact ⟨a, vs, v, rfl, rfl, hH, by rw [← fl.length]; exact hv, k _ _ fv fl.dropLast⟩
    · cases e
  · cases e
def fPop1 (l ds : List D) : R (D × List D) := match ds with
  | [.int i] => if -(2 ^ 63) ≤ i ∧ i < 2 ^ 63 then match seqIndex? i l.length with
      | some j => match l[j]? with
        | some d => .ok (d, l.eraseIdx j)
        | none => .bad
      | none => .bad
    else .bad
  | _ => .bad
theorem s_pop1 : MethS X rPopAt fPop1 := by
  intro H w a vs us l ds d l' Q hH fl fd e k
  unfold fPop1 at e
  split at e
  · split at e
    · rename_i hi
      split at e
      · rename_i j hj
        split at e
        · rename_i hl
          cases e
          cases fd with
          | cons f1 f2 =>
            cases f2
            cases f1
            obtain ⟨v, hv, fv⟩ := fl.get hl
            exact ⟨a, vs, _, j, v, rfl, rfl, hH, hi.1, hi.2, by rw [← fl.length]; exact hj, hv, k _ _ fv (fl.eraseIdx j)⟩
        · cases e
      · cases e
    · cases e
  · cases e
def fReverse (l ds : List D) : R (D × List D) := match ds with
  | [] => .ok (.non, l.reverse)
  | _ => .bad
theorem s_reverse : MethS X rReverse fReverse := by
  intro H w a vs us l ds d l' Q hH fl fd e k
  unfold fReverse at e
  split at e
  · cases e
    cases fd
    exact ⟨a, vs, rfl, rfl, hH, k _ _ .non fl.reverse⟩
  · cases e

/-! ### index -/
def ixOf (x : D) : Nat → List D → Option Nat
  | _, [] => none
  | j, d :: r => if d.eqv x then some j else ixOf x (j + 1) r
theorem ixOf_ok {x : D} : ∀ {l : List D} {j i : Nat}, ixOf x j l = some i → ∃ k z, i = j + k ∧ l[k]? = some z ∧ z.eqv x = true ∧ ∀ (m : Nat) (z' : D), m < k → l[m]? = some z' → z'.eqv x = false
  | [], _, _, h => by cases h
  | d :: r, j, i, h => by
    unfold ixOf at h
    split at h
    · rename_i hd
      cases h
      exact ⟨0, d, rfl, rfl, hd, fun m z' hm _ => absurd hm (Nat.not_lt_zero m)⟩
    · rename_i hd
      obtain ⟨k, z, h1, h2, h3, h4⟩ := ixOf_ok h
      refine ⟨k + 1, z, by omega, by simpa using h2, h3, fun m z' hm hz => ?_⟩
      cases m with
      | zero =>
        have hz : d = z' := by simpa using hz
        subst hz
        simpa using hd
      | succ m => exact h4 m z' (by omega) (by simpa using hz)
def fIndexL : List Cell → R Cell
  | [⟨.lst l, _⟩, c] => if (D.lst l).okd 60 && c.d.okd 60 then match ixOf c.d 0 l with
      | some j => .ok (Cell.fz (.int j))
      | none => .bad
    else .bad
  | _ => .bad
def fIndexT : List Cell → R Cell
  | [⟨.tup l, _⟩, c] => if (D.tup l).okd 60 && c.d.okd 60 then match ixOf c.d 0 l with
      | some j => .ok (Cell.fz (.int j))
      | none => .bad
    else .bad
  | _ => .bad
theorem ixOf_py {l : List D} {x : D} {j : Nat} (h : ixOf x 0 l = some j) : ∃ z, (D.pyL l)[j]? = some z ∧ PyData.eqv z x.py = true ∧ ∀ (m : Nat) (z' : PyData), m < j → (D.pyL l)[m]? = some z' → PyData.eqv z' x.py = false := by
  obtain ⟨k, z, h1, h2, h3, h4⟩ := ixOf_ok h
  rw [Nat.zero_add] at h1
  subst h1
  rw [D.pyL_map]
  refine ⟨z.py, by rw [List.getElem?_map, h2]; rfl, h3, fun m z' hm hz => ?_⟩
  rw [List.getElem?_map] at hz
  cases q : l[m]? with
  | none => rw [q] at hz; cases hz
  | some y =>
    rw [q] at hz
    cases hz
    exact h4 m y hm q
/-! ### methods that read -/
def rRecv (r : V → List V → Hp → VK → Prop) : List V → Hp → VK → Prop := fun vs H Q => match vs with
  | x :: xs => r x xs H Q
  | [] => False
def mRecv (chk : D → Bool) (f : List Cell → R Cell) (m : AE) (ms : List AE) : AE := fun ρ => do
  let (s, ρ1) ← m ρ
  match (s.cell ρ1).map (fun c => chk c.d) with
  | some true => do
    let (ss, ρ2) ← evs ms ρ1
    match cells ρ2 (s :: ss) with
    | some cs => do
      let r ← f cs
      R.ok (.v r, ρ2)
    | none => R.bad
  | _ => R.bad
theorem sa_recv {o e : Expr} {es : List Expr} {m : AE} {ms : List AE} {chk : D → Bool} {f : List Cell → R Cell} {ty : V → Hp → Prop} {r : V → List V → Hp → VK → Prop} (hs : CallS X (rRecv r) f) (ht : ∀ (H : Hp) (w : OM) (o : Own) (k : Nat) (d : D) (v : V), chk d = true → Ow X.K H w o k d v → ty v H)
    (ho : SA X o m) (ha : SAs X es ms) (hp : ∀ t u, PE X o t → PA X es u → PE X e (fun σ H Q => t σ H fun x H1 => ty x H1 ∧ u σ H1 fun xs H2 => r x xs H2 Q)) : SA X e (mRecv chk f m ms) := by
  obtain ⟨t, p, g⟩ := ho.ex
  obtain ⟨u, q, g2⟩ := ha.ex
  refine ⟨_, hp t u p q, fun n σ H w ρ s ρ' Q ok hm k => ?_⟩
  obtain ⟨⟨s1, ρ1⟩, e1, hm⟩ := R.of_bind hm
  dsimp only at hm
  split at hm
  · rename_i hck
    obtain ⟨c0, hc0, hk⟩ := Option.map_eq_some_iff.mp hck
    obtain ⟨⟨ss, ρ2⟩, e2, hm⟩ := R.of_bind hm
    dsimp only at hm
    split at hm
    · rename_i cs hcs
      obtain ⟨rr, e3, hm⟩ := R.of_bind hm
      cases hm
      refine g n σ H w ρ s1 _ _ ok e1 fun v H1 w1 ok1 st1 sa => ?_
      obtain ⟨o1, _, ow1⟩ := sa.cell ok1 hc0
      refine ⟨ht H1 w1 o1 c0.k c0.d v hk ow1, ?_⟩
      refine g2 (n + 1) σ H1 w1 ρ1 ss _ _ ok1 e2 fun vs H2 w2 ok2 st2 sa2 => ?_
      refine hs n H2 w2 σ _ cs (v :: vs) rr Q ok2 (SrcsAt.cells (n := n) (ss := s1 :: ss) (vs := v :: vs) ok2 ⟨sa.step st2 (Nat.lt_succ_self n), sa2⟩ hcs) e3 fun v3 H3 w3 ok3 st3 q3 => ?_
      exact k v3 H3 w3 ok3 ((st1.trans (st2.mono (Nat.le_succ n))).trans st3) q3
    · cases hm
  · cases hm
def isLstD : D → Bool
  | .lst _ => true
  | _ => false
def isTupD : D → Bool
  | .tup _ => true
  | _ => false
def isStrD : D → Bool
  | .str _ => true
  | _ => false
theorem s_indexL : CallS X (rRecv (rIndexD X.K)) fIndexL := s_scalar fun K H w cs vs c Q hK ow e => by
  subst hK
  unfold fIndexL at e
  split at e
  · split at e
    · rename_i l _ c1 hc
      split at e
      · rename_i j hj
        cases e
        rw [Bool.and_eq_true] at hc
        obtain ⟨v, u, o, q, rfl, h1, h2⟩ := ow.two
        obtain ⟨a, xs, rfl, _⟩ := ow_lst h1
        obtain ⟨z, z1, z2, z3⟩ := ixOf_py hj
        refine ⟨_, .int j, rfl, by simp [isSc], fun q => ⟨a, u, c1.d.py, D.pyL l, j, z, rfl, rfl, by have := h1.dp hc.1; rw [D.py] at this; exact this, h2.dp hc.2, by have := D.okd_shaped hc.1; rw [D.py] at this; exact this, D.okd_shaped hc.2, z1, z2, z3, q⟩⟩
      · cases e
    · cases e
  · cases e
theorem s_indexT : CallS X (rRecv (rTIndexD X.K)) fIndexT := s_scalar fun K H w cs vs c Q hK ow e => by
  subst hK
  unfold fIndexT at e
  split at e
  · split at e
    · rename_i l _ c1 hc
      split at e
      · rename_i j hj
        cases e
        rw [Bool.and_eq_true] at hc
        obtain ⟨v, u, o, q, rfl, h1, h2⟩ := ow.two
        obtain ⟨a, xs, rfl, _⟩ := ow_tup h1
        obtain ⟨z, z1, z2, z3⟩ := ixOf_py hj
        refine ⟨_, .int j, rfl, by simp [isSc], fun q => ⟨a, u, c1.d.py, D.pyL l, j, z, rfl, rfl, by have := h1.dp hc.1; rw [D.py] at this; exact this, h2.dp hc.2, by have := D.okd_shaped hc.1; rw [D.py] at this; exact this, D.okd_shaped hc.2, z1, z2, z3, q⟩⟩
      · cases e
    · cases e
  · cases e
def mIndex (m me : AE) : AE := fun ρ => match mRecv isLstD fIndexL m [me] ρ with
  | .ok r => .ok r
  | _ => mRecv isTupD fIndexT m [me] ρ
/-- o.index(e), o a list or a tuple -/
theorem sa_index {o e : Expr} {m me : AE} {apos cpos : Pos} (hu : X.A.units + 65 < cLine) (ho : SA X o m) (he : SA X e me) (hbase : attributeBase o "index" X.env (eval o X.env) = eval o X.env := by rfl)
    (hfew : ((backTo cpos (starEach [e] X.env)).all (fun x => !x.1) && (backToKw cpos (keywordEach [] X.env)).all (fun x => x.1.isSome)
      && decide ([e].length + ([] : List Keyword).length + (if ([] : List Keyword).isEmpty then 0 else 1) < 30)) = true := by rfl)
    (hline : (apos.endLine == cpos.line) = true := by rfl) (hst : starEach [e] X.env = (false, eval e X.env) :: starEach [] X.env := by rfl) (hplain : (backTo cpos (starEach [] X.env)).any (·.1) = false := by rfl) :
    SA X (.Call (.Attribute o "index" apos) [e] [] cpos) (mIndex m me) := by
  refine SA.either (m1 := mRecv isLstD fIndexL m [me]) (m2 := mRecv isTupD fIndexT m [me]) ?_ ?_ fun ρ s ρ' h => ?_
  · refine sa_recv s_indexL (ty := tyV X.K "list") (fun H w o k d v hc ow => ?_) ho (sas_cons he sas_nil hst) fun t u p q => pe_bm PySem.F.plainAttrs_list PySem.F.slot_list_index PySem.F.type_list_index (mt_indexD hu) p q hbase hfew hline hst hplain
    cases d with
    | lst l =>
      obtain ⟨a, xs, rfl, hH, _⟩ := ow_lst ow
      exact .inl ⟨rfl, xs, .inl (.inl hH)⟩
    | _ => cases hc
  · refine sa_recv s_indexT (ty := fun x H => ∃ p, x = .ref p ∧ TupRc X.K H p) (fun H w o k d v hc ow => ?_) ho (sas_cons he sas_nil hst) fun t u p q => pe_tm PySem.F.slot_tuple_index PySem.F.type_tuple_index (mt_tindexD hu) p q hbase hfew hline hst hplain
    cases d with
    | tup l =>
      obtain ⟨a, xs, rfl, ta, _⟩ := ow_tup ow
      exact ⟨a, rfl, ta.rc⟩
    | _ => cases hc
  · unfold mIndex at h
    split at h
    · rename_i r hr
      cases h
      exact .inl hr
    · exact .inr h

/-! ### methods of texts -/
def fSplit : List Cell → R Cell
  | [⟨.str a, _⟩, ⟨.str b, _⟩] => if b.length ≠ 0 ∧ a.length + 2 ≤ 16777216 then .ok ⟨.lst ((Txt.split a b).map D.str), 1⟩ else .bad
  | _ => .bad
theorem s_split : CallS X (rRecv fun x xs H Q => ∃ a b, x = .str a ∧ xs = [.str b] ∧ (b.length == 0) = false ∧ a.length + 2 ≤ sizeLine ∧ rNewStrs (Txt.split a b) H Q) fSplit := by
  intro n H w σ ρ cs vs c Q ok ow e k
  unfold fSplit at e
  split at e
  · split at e
    · rename_i hc
      cases e
      obtain ⟨v, u, o, q, rfl, h1, h2⟩ := ow.two
      cases ow_str h1
      cases ow_str h2
      refine ⟨_, _, rfl, rfl, by simpa using hc.1, by rw [sizeLine_eq]; exact hc.2, fun p hp => ?_⟩
      exact k _ _ (w.put p (.tm n)) (ok.new hp _) (Step.new hp) (.lst upd_same OM.put_same (FzL.of_strs _))
    · cases e
  · cases e
def asStrs : List D → Option (List Str)
  | [] => some []
  | .str i :: r => match asStrs r with
    | some is => some (i :: is)
    | none => none
  | _ :: _ => none
theorem asStrs_map : ∀ ns : List Str, asStrs (ns.map D.str) = some ns
  | [] => rfl
  | n :: ns => by rw [List.map_cons, asStrs, asStrs_map ns]
theorem asStrs_eq : ∀ {l : List D} {ns : List Str}, asStrs l = some ns → l = ns.map D.str
  | [], ns, h => by cases h; rfl
  | d :: r, ns, h => by
    cases d with
    | str i =>
      unfold asStrs at h
      cases e : asStrs r with
      | none => rw [e] at h; cases h
      | some is => rw [e] at h; cases h; rw [asStrs_eq e]; rfl
    | _ => cases h
def itemsT : D → Option (List D)
  | .tup l => some l
  | .lst l => some l
  | .scr l => some l
  | _ => none
def fJoin : List Cell → R Cell
  | [⟨.str a, _⟩, c] => match itemsT c.d with
    | some l => if c.k ≤ 1 then match asStrs l with
        | some ys => if (ys.map (·.length)).sum + ys.length * a.length ≤ 16777216 then .ok (Cell.fz (.str (Txt.join a ys))) else .bad
        | none => .bad
      else .bad
    | none => .bad
  | _ => .bad
theorem s_join : CallS X (rRecv fun x xs H Q => ∃ a p, ∃ ys : List Str, x = .str a ∧ xs = [.ref p] ∧ (SqL X.K H p (ys.map V.str) ∨ SqT X.K H p (ys.map V.str)) ∧
    (ys.map (·.length)).sum + ys.length * a.length ≤ 16777216 ∧ Q (.str (Txt.join a ys)) H) fJoin := s_scalar fun K H w cs vs c Q hK ow e => by
  subst hK
  unfold fJoin at e
  split at e
  · rename_i a _ c1
    split at e
    · rename_i l hl
      split at e
      · rename_i hk
        split at e
        · rename_i ys hy
          split at e
          · rename_i hz
            cases e
            obtain ⟨v, u, o, q, rfl, h1, h2⟩ := ow.two
            cases ow_str h1
            obtain ⟨d, k⟩ := c1
            have el := asStrs_eq hy
            cases d with
            | tup m =>
              cases hl
              subst el
              obtain ⟨b, xs, rfl, ta, fa⟩ := ow_tup h2
              have := fa.strs
              subst this
              exact ⟨_, .str (Txt.join a ys), rfl, by simp [isSc], fun q => ⟨a, b, ys, rfl, rfl, .inr ta.sq, hz, q⟩⟩
            | lst m =>
              cases hl
              subst el
              obtain ⟨b, xs, rfl, hb, _, fa⟩ := ow_lst h2
              have := (fa hk).strs
              subst this
              exact ⟨_, .str (Txt.join a ys), rfl, by simp [isSc], fun q => ⟨a, b, ys, rfl, rfl, .inl (.inl (.inl hb)), hz, q⟩⟩
            | scr m =>
              cases hl
              subst el
              obtain ⟨b, xs, rfl, hb, fa⟩ := ow_scr h2
              have := fa.strs
              subst this
              exact ⟨_, .str (Txt.join a ys), rfl, by simp [isSc], fun q => ⟨a, b, ys, rfl, rfl, .inl hb, hz, q⟩⟩
            | _ => cases hl
          · cases e
        · cases e
      · cases e
    · cases e
  · cases e
/-- o.m(e), o a text -/
theorem sa_str1 {id : String} {name : Str} {apos pos : Pos} {o e : Expr} {m me : AE} {f : List Cell → R Cell} {r : V → List V → Hp → VK → Prop} (slot : Slot "str" name id) (ty : typeOf (.builtin id) = pure (.type "method_descriptor")) (rule : MtR X id r) (hs : CallS X (rRecv r) f) (ho : SA X o m) (he : SA X e me)
    (hst : starEach [e] X.env = [(false, eval e X.env)] := by rfl) (hst2 : starEach [e] X.env = (false, eval e X.env) :: starEach [] X.env := by rfl) (hbase : attributeBase o name X.env (eval o X.env) = eval o X.env := by rfl) (hline : (apos.endLine == pos.line) = true := by rfl) :
    SA X (.Call (.Attribute o name apos) [e] [] pos) (mRecv isStrD f m [me]) := by
  obtain ⟨te, q, g2⟩ := he.ex
  obtain ⟨t, p, g⟩ := ho.ex
  refine ⟨_, pe_m1 slot ty rule p q hst hbase hline, fun n σ H w ρ s ρ' Q ok hm k => ?_⟩
  obtain ⟨⟨s1, ρ1⟩, e1, hm⟩ := R.of_bind hm
  dsimp only at hm
  split at hm
  · rename_i hck
    obtain ⟨c0, hc0, hk⟩ := Option.map_eq_some_iff.mp hck
    obtain ⟨⟨ss, ρ2⟩, e2, hm⟩ := R.of_bind hm
    dsimp only at hm e2
    obtain ⟨⟨s2, ρ3⟩, e4, e2⟩ := R.of_bind e2
    cases e2
    split at hm
    · rename_i cs hcs
      obtain ⟨rr, e3, hm⟩ := R.of_bind hm
      cases hm
      refine g n σ H w ρ s1 _ _ ok e1 fun v H1 w1 ok1 st1 sa => ?_
      obtain ⟨o1, _, ow1⟩ := sa.cell ok1 hc0
      refine ⟨?_, ?_⟩
      · obtain ⟨d, kk⟩ := c0
        cases d with
        | str z => exact ⟨z, ow_str ow1⟩
        | _ => cases hk
      · refine g2 (n + 1) σ H1 w1 ρ1 s2 _ _ ok1 e4 fun v2 H2 w2 ok2 st2 sa2 => ?_
        refine hs n H2 w2 σ _ cs [v, v2] rr Q ok2 (SrcsAt.cells (n := n) (ss := [s1, s2]) (vs := [v, v2]) ok2 ⟨sa.step st2 (Nat.lt_succ_self n), sa2, trivial⟩ hcs) e3 fun v3 H3 w3 ok3 st3 q3 => ?_
        exact k v3 H3 w3 ok3 ((st1.trans (st2.mono (Nat.le_succ n))).trans st3) q3
    · cases hm
  · cases hm
end
end Z

/-! Z: what the printed proofs lean on. -/
namespace Z
open PySem PySem.Spec PyProof.Rows L2
theorem u65 {k : Nat} {A : Around} (r : Room k A) : A.units + 65 < cLine := by have := r.un; omega
theorem u64 {k : Nat} {A : Around} (r : Room k A) : A.units + 64 < cLine := by have := r.un; omega
theorem u1 {k : Nat} {A : Around} (r : Room k A) : A.units + 1 < cLine := by have := r.un; omega
def blkB (N : List Str) (sc scope : Scope) (own : List (Str × Nat)) : Bool :=
  decide (scope.kind = .function) && scope.names.all (fun y => decide (scope.names.lookup y.1 = some y.2)) && own.all (fun p => decide (N[p.2]? = some p.1)) &&
  scope.names.all (fun y => !decide (y.2 = .free) || decide (sc.names.lookup y.1 = some .cell) || decide (sc.names.lookup y.1 = some .free)) &&
  scope.names.all (fun y => !(decide (y.2 = .local) || decide (y.2 = .cell)) || decide (y.1 ∈ own.map (·.1)) || decide (y.1 ∉ N))
theorem blk_of {N : List Str} {sc scope : Scope} {own : List (Str × Nat)} (h : blkB N sc scope own = true) : BlkOk N sc scope own := by
  unfold blkB at h
  simp only [Bool.and_eq_true, List.all_eq_true, Bool.or_eq_true, Bool.not_eq_true', decide_eq_true_eq, decide_eq_false_iff_not] at h
  obtain ⟨⟨⟨⟨h1, h2⟩, h3⟩, h4⟩, h5⟩ := h
  refine ⟨h1, h2, h3, fun y hy e => ?_, fun y hy e => ?_⟩
  · rcases h4 y hy with (z | z) | z
    · exact absurd e z
    · exact .inl z
    · exact .inr z
  · rcases h5 y hy with (z | z) | z
    · rcases e with e | e
      · simp [e] at z
      · simp [e] at z
    · exact .inl z
    · exact .inr z
theorem fn_okD {P : Program} {w : World} {K : PySem.W.Frag} {mg : Str → Option Value} {base : Heap} {x qual : Str} {pa : Arguments} {bd : List Stmt} {sc : Scope} {dvs : List V} {kws : List (Str × V)} {f : Addr} {fd : FuncData} {N ps : List Str} {k np size : Nat} {m : MS} (F : FunD K x qual pa bd sc dvs kws f fd) (S : FnScope N ps sc) (hnp : ps.length = np) (hsize : N.length = size)
    (hb : ∀ (cdv : Value) (A : Around) (outer : List PySem.Env) (s : Shared) (H : Hp) (E : XK), Room k (A.deeper (envOfC qual sc s.heap.objs.size f cdv)) →
      SSs (cxOf CX0 P w K mg base N qual sc f cdv A outer s H E).nox bd m) : FnOk P w K mg base CX0 (k + 1) f fd ps (spD K np (runDef size m)) := by
  refine F.ok S (fun vs H Q E h => ?_) (fun cdv A outer s H vs Q E hr h => ?_)
  · obtain ⟨w, args, r, fs, h1, h2, _⟩ := h
    rw [← h2.length, h1, hnp]
  · obtain ⟨w0, args, r, fs, h1, h2, h3, h4, q⟩ := h
    obtain ⟨t, p, g⟩ := (hb cdv A outer s H E hr).ex
    refine ⟨t, p.nox, ?_⟩
    obtain ⟨⟨fl, ρ'⟩, e1, h4⟩ := R.of_bind h4
    obtain ⟨fs', e2, h4⟩ := R.of_bind h4
    have hlv : vs.length = args.length := h2.length.symm
    have hst : ∀ i v, vs[i]? = some v → (L2.start N vs)[i]? = some (some v) := fun i v hv => by
      unfold L2.start
      rw [List.getElem?_append_left (by rw [List.length_map]; exact (List.getElem?_eq_some_iff.mp hv).1), List.getElem?_map, hv]
      rfl
    have ok0 : Ok K H w0 (L2.start N vs) (args.map some ++ List.replicate (size - args.length) none) := by
      refine ⟨?_, fun i c hc => ?_, h3⟩
      · unfold L2.start
        simp only [List.length_append, List.length_map, List.length_replicate]
        rw [hlv, hsize]
      · have hi := env_get_map hc
        obtain ⟨v, hv, ow⟩ := h2.get hi
        rw [Nat.zero_add] at ow
        exact ⟨v, hst i v hv, ow⟩
    refine g 0 (L2.start N vs) H w0 _ (locks 0 args) fl ρ' _ ok0 e1 fun σ' H' w' ok' st' lk => ?_
    have fin := fins_ok (σ := start N vs) ok' (vs := vs) h2.length e2 (fun i v hv => by rw [Nat.zero_add]; exact hst i v hv) (fun i c hc hk => lk _ (locks_mem hc hk))
    cases fl with
    | next =>
      cases h4
      exact q .non H' w' ok'.live st' (.fz .non) fin
    | ret c =>
      cases h4
      exact fun v ow => q v H' w' ok'.live st' ow fin
    | brk => cases h4
    | cont => cases h4
theorem fz_ints {K : PySem.W.Frag} {H : Hp} {w : OM} : ∀ ns : List Int, FzL K H w (ns.map D.int) (ns.map V.int)
  | [] => .nil
  | n :: r => .cons (.int n) (fz_ints r)
/-- the law's answer -/
theorem law_sp {K : PySem.W.Frag} {c : FD} {H : Hp} {a : Addr} {ns : List Int} {fs : List Cell} (hS : SqL K H a (ns.map V.int)) (h : c [⟨.scr (ns.map D.int), 0⟩] = .ok (Cell.fz (.bl true), fs)) : spD K 1 c [.ref a] H (fun v _ => v = .bl true) fun _ _ _ => False := by
  refine ⟨fun _ => .no, [⟨.scr (ns.map D.int), 0⟩], Cell.fz (.bl true), fs, rfl, ⟨?_, trivial⟩, fun _ z => absurd rfl z, h, fun v H' w' _ _ ow _ => ?_⟩
  · refine .fz (.scr ?_ (fz_ints ns))
    rcases hS with h | h
    · exact .inl ⟨h, rfl⟩
    · exact .inr h
  · cases ow with
    | fz f => cases f; rfl
end Z

/-! Z: to compute with the pure functions. -/
namespace Z
open PySem PySem.Spec PyProof.Rows L2
theorem bind_first {α β : Type} {x y : R α} {f : α → R β} (h : x = y) : (x >>= f) = (y >>= f) := by rw [h]
section
variable {L : List Nat} {ρ : Env} {i : Nat}
@[simp] theorem get_z {c : Option Cell} {r : Env} : Env.get (c :: r) 0 = c := rfl
@[simp] theorem get_s {c : Option Cell} {r : Env} {n : Nat} : Env.get (c :: r) (n + 1) = Env.get r n := rfl
@[simp] theorem set_z {c x : Option Cell} {r : Env} : Env.set (c :: r) 0 x = x :: r := rfl
@[simp] theorem set_s {c x : Option Cell} {r : Env} {n : Nat} : Env.set (c :: r) (n + 1) x = c :: Env.set r n x := rfl
@[simp] theorem fz_eq {d : D} : Cell.fz d = ⟨d, 0⟩ := rfl

@[simp] theorem src_v {c : Cell} : Src.cell ρ (.v c) = some c := rfl
@[simp] theorem src_s : Src.cell ρ (.s i) = ρ.get i := rfl
@[simp] theorem aC_ap {d : D} : aC d ρ = .ok (.v (Cell.fz d), ρ) := rfl
theorem aVar_ap : aVar i ρ = (match ρ.get i with | some _ => .ok (.s i, ρ) | none => .bad) := rfl
@[simp] theorem aVar_z {c : Cell} {r : Env} : aVar 0 (some c :: r) = .ok (.s 0, some c :: r) := rfl
theorem aVar_of {c : Cell} (h : ρ.get i = some c) : aVar i ρ = .ok (.s i, ρ) := by unfold aVar; rw [h]
@[simp] theorem evs_nil : evs [] ρ = .ok ([], ρ) := rfl
@[simp] theorem evs_cons {m : AE} {ms : List AE} : evs (m :: ms) ρ = (do let (s, ρ1) ← m ρ; let (ss, ρ2) ← evs ms ρ1; R.ok (s :: ss, ρ2)) := rfl
@[simp] theorem cells_nil : cells ρ [] = some [] := rfl
@[simp] theorem cells_cons {s : Src} {ss : List Src} : cells ρ (s :: ss) = (match s.cell ρ, cells ρ ss with | some c, some cs => some (c :: cs) | _, _ => none) := rfl
@[simp] theorem mPrim_ap {f : List Cell → R Cell} {ms : List AE} : mPrim f ms ρ = (do let (ss, ρ1) ← evs ms ρ; match cells ρ1 ss with | some cs => (do let c ← f cs; R.ok (.v c, ρ1)) | none => R.bad) := rfl
@[simp] theorem esc_v {c : Cell} : esc (.v c) ρ = .ok (c, ρ) := rfl
@[simp] theorem esc_s : esc (.s i) ρ = (match ρ.get i with | some ⟨d, 0⟩ => .ok (Cell.fz d, ρ) | some ⟨d, _ + 1⟩ => .ok (Cell.fz d, ρ.set i (some ⟨d, 0⟩)) | none => .bad) := rfl
@[simp] theorem escs_nil : escs [] ρ = .ok ([], ρ) := rfl
@[simp] theorem escs_cons {s : Src} {ss : List Src} : escs (s :: ss) ρ = (do let (c, ρ1) ← esc s ρ; let (ds, ρ2) ← escs ss ρ1; R.ok (c.d :: ds, ρ2)) := rfl
@[simp] theorem mTup_ap {ms : List AE} : mTup ms ρ = (do let (ss, ρ1) ← evs ms ρ; let (ds, ρ2) ← escs ss ρ1; R.ok (.v (Cell.fz (.tup ds)), ρ2)) := rfl
@[simp] theorem mLst_ap {ms : List AE} : mLst ms ρ = (do let (ss, ρ1) ← evs ms ρ; let (ds, ρ2) ← escs ss ρ1; R.ok (.v ⟨.lst ds, 1⟩, ρ2)) := rfl
@[simp] theorem take_v {c : Cell} : take L (.v c) ρ = .ok (c, ρ) := rfl
@[simp] theorem take_s : take L (.s i) ρ = (match ρ.get i with | some ⟨d, 0⟩ => .ok (Cell.fz d, ρ) | some ⟨d, k + 1⟩ => if L.contains i then .ok (Cell.fz d, ρ.set i (some ⟨d, 0⟩)) else .ok (⟨d, k + 1⟩, ρ.set i none) | none => .bad) := rfl
@[simp] theorem mTest_ap {a : AE} : mTest a ρ = (do let (s, ρ1) ← a ρ; match s.cell ρ1 with | some c => (match truth c.d with | some b => R.ok (b, ρ1) | none => R.bad) | none => R.bad) := rfl
@[simp] theorem mNotT_ap {a : MT} : mNotT a ρ = (do let (b, ρ1) ← a ρ; R.ok (!b, ρ1)) := rfl
@[simp] theorem mAndT_ap {a b : MT} : mAndT a b ρ = (do let (c, ρ1) ← a ρ; if c then b ρ1 else R.ok (false, ρ1)) := rfl
@[simp] theorem mOrT_ap {a b : MT} : mOrT a b ρ = (do let (c, ρ1) ← a ρ; if c then R.ok (true, ρ1) else b ρ1) := rfl
@[simp] theorem mNotV_ap {a : AE} : mNotV a ρ = (do let (b, ρ1) ← mTest a ρ; R.ok (.v (Cell.fz (.bl (!b))), ρ1)) := rfl
@[simp] theorem mAndV_ap {a b : AE} : mAndV a b ρ = (do let (s, ρ1) ← a ρ; match s.cell ρ1 with | some ⟨.bl c, _⟩ => if c then b ρ1 else R.ok (.v (Cell.fz (.bl false)), ρ1) | _ => R.bad) := rfl
@[simp] theorem mOrV_ap {a b : AE} : mOrV a b ρ = (do let (s, ρ1) ← a ρ; match s.cell ρ1 with | some ⟨.bl c, _⟩ => if c then R.ok (.v (Cell.fz (.bl true)), ρ1) else b ρ1 | _ => R.bad) := rfl
@[simp] theorem mIfE_ap {t : MT} {a b : AE} : mIfE t a b ρ = (do let (c, ρ1) ← t ρ; if c then a ρ1 else b ρ1) := rfl
@[simp] theorem mSeq_ap {a b : MS} : mSeq a b L ρ = (do let (fl, ρ1) ← a L ρ; match fl with | .next => b L ρ1 | f => R.ok (f, ρ1)) := rfl
@[simp] theorem mNext_ap : mNext L ρ = .ok (.next, ρ) := rfl
@[simp] theorem mBrk_ap : mBrk L ρ = .ok (.brk, ρ) := rfl
@[simp] theorem mCont_ap : mCont L ρ = .ok (.cont, ρ) := rfl
@[simp] theorem mExpr_ap {m : AE} : mExpr m L ρ = (do let (_, ρ1) ← m ρ; R.ok (.next, ρ1)) := rfl
@[simp] theorem mRet_ap {m : AE} : mRet m L ρ = (do let (s, ρ1) ← m ρ; let (c, ρ2) ← take L s ρ1; R.ok (.ret c, ρ2)) := rfl
@[simp] theorem mRetN_ap : mRetN L ρ = .ok (.ret (Cell.fz .non), ρ) := rfl
@[simp] theorem mSet_ap {m : AE} : mSet i m L ρ = (do let (s, ρ1) ← m ρ; let (c, ρ2) ← take L s ρ1; if L.contains i then R.bad else R.ok (.next, ρ2.set i (some c))) := rfl
@[simp] theorem mIf_ap {t : MT} {a b : MS} : mIf t a b L ρ = (do let (c, ρ1) ← t ρ; if c then a L ρ1 else b L ρ1) := rfl
@[simp] theorem gN_ap {d : D} : gN i d L ρ = if L.contains i then .bad else .ok (ρ.set i (some (Cell.fz d))) := rfl
@[simp] theorem mAsg_ap {g : MG} {m : AE} : mAsg g m L ρ = (do let (s, ρ1) ← m ρ; let (c, ρ2) ← esc s ρ1; let ρ3 ← g c.d L ρ2; R.ok (.next, ρ3)) := rfl
@[simp] theorem gT_ap {n : Nat} {gs : List D → List Nat → Env → R Env} {ds : List D} : gT n gs (.tup ds) L ρ = if ds.length = n then gs ds L ρ else .bad := rfl
@[simp] theorem gsNil_ap : gsNil [] L ρ = .ok ρ := rfl
@[simp] theorem gsCons_ap {g : MG} {gs : List D → List Nat → Env → R Env} {d : D} {r : List D} : gsCons g gs (d :: r) L ρ = (do let ρ1 ← g d L ρ; gs r L ρ1) := rfl
@[simp] theorem mFor_ap {mi : MI} {g : MG} {body : MS} : mFor mi g body L ρ = (do let (it, ρ1) ← mi ρ; loopF it g body (match it.chk with | some i => i :: L | none => L) it.items ρ1) := rfl
@[simp] theorem mItems_ap {a : AE} : mItems a ρ = (do
  let (s, ρ1) ← a ρ
  match s with
  | .v c => match itemsOf c.d with
    | some l => R.ok (⟨l, none⟩, ρ1)
    | none => R.bad
  | .s i => match ρ1.get i with
    | some ⟨d, 0⟩ => match itemsOf d with
      | some l => R.ok (⟨l, none⟩, ρ1)
      | none => R.bad
    | some ⟨.lst l, 1⟩ => R.ok (⟨l, some i⟩, ρ1)
    | _ => R.bad) := rfl
@[simp] theorem mRange1_ap {a : AE} : mRange1 a ρ = (do
  let (s, ρ1) ← a ρ
  match s.cell ρ1 with
  | some ⟨.int j, _⟩ => if rgB 0 j then R.ok (⟨rgD 0 j, none⟩, ρ1) else R.bad
  | _ => R.bad) := rfl
@[simp] theorem mRange2_ap {a b : AE} : mRange2 a b ρ = (do
  let (s, ρ1) ← a ρ
  let (u, ρ2) ← b ρ1
  match s.cell ρ2, u.cell ρ2 with
  | some ⟨.int i, _⟩, some ⟨.int j, _⟩ => if rgB i j then R.ok (⟨rgD i j, none⟩, ρ2) else R.bad
  | _, _ => R.bad) := rfl
@[simp] theorem mRg1_ap {a : AE} : mRg1 a ρ = (do let (s, ρ1) ← a ρ; match s.cell ρ1 with | some ⟨.int j, _⟩ => R.ok (((0 : Int), j), ρ1) | _ => R.bad) := rfl
@[simp] theorem mListRg_ap {m : Env → R ((Int × Int) × Env)} : mListRg m ρ = (do let (x, ρ1) ← m ρ; if rgOkB x.1 x.2 then R.ok (.v ⟨.lst (rgD x.1 x.2), 1⟩, ρ1) else R.bad) := rfl
@[simp] theorem mTupRg_ap {m : Env → R ((Int × Int) × Env)} : mTupRg m ρ = (do let (x, ρ1) ← m ρ; if rgOkB x.1 x.2 then R.ok (.v (Cell.fz (.tup (rgD x.1 x.2))), ρ1) else R.bad) := rfl
@[simp] theorem mComp_ap {mi : MI} {g : MG} {tt : MT} {me : AE} {vs : List Nat} : mComp mi g tt me vs ρ = (do
  let (it, ρ1) ← mi ρ
  if ownOk ρ1 vs && decide (it.items.length ≤ 16777216) && chkOk it (wipeE ρ1 vs) then do
    let (acc, ρ2) ← loopC it g tt me vs it.items (wipeE ρ1 vs)
    R.ok (.v ⟨.lst acc, 1⟩, restore ρ2 ρ1 vs)
  else R.bad) := rfl
@[simp] theorem mYes_ap : mYes ρ = .ok (true, ρ) := rfl
@[simp] theorem mSetIx_ap {mi mv : AE} : mSetIx i mi mv L ρ = (do
  let (sv, ρ1) ← mv ρ
  let (c, ρ2) ← esc sv ρ1
  match ρ2.get i with
  | some _ => do
    let (si, ρ3) ← mi ρ2
    match si.cell ρ3, ρ3.get i with
    | some ⟨.int k, _⟩, some ⟨.lst l, 1⟩ => match setD l k c.d with
      | some l' => R.ok (.next, ρ3.set i (some ⟨.lst l', 1⟩))
      | none => R.bad
    | _, _ => R.bad
  | none => R.bad) := rfl
@[simp] theorem mAug_ap {f : List Cell → R Cell} {m : AE} : mAug i f m L ρ = (match ρ.get i with
  | some c0 => do
    let (s, ρ1) ← m ρ
    match s.cell ρ1 with
    | some c => do
      let r ← f [⟨c0.d, 0⟩, c]
      if c0.k = 0 then (if L.contains i then R.bad else R.ok (.next, ρ1.set i (some r))) else R.bad
    | none => R.bad
  | none => R.bad) := rfl
@[simp] theorem mAugIx_ap {mi mv : AE} {f : List Cell → R Cell} : mAugIx i mi f mv L ρ = (match ρ.get i with
  | some _ => do
    let (si, ρ1) ← mi ρ
    match si.cell ρ1, ρ1.get i with
    | some ⟨.int kk, _⟩, some ⟨.lst l, 1⟩ => match atI l kk with
      | some (.int old) => do
        let (sv, ρ2) ← mv ρ1
        match sv.cell ρ2 with
        | some c => do
          let r ← f [⟨.int old, 0⟩, c]
          match r, ρ2.get i with
          | ⟨.int new, _⟩, some ⟨.lst l2, 1⟩ => match setD l2 kk (.int new) with
            | some l' => R.ok (.next, ρ2.set i (some ⟨.lst l', 1⟩))
            | none => R.bad
          | _, _ => R.bad
        | none => R.bad
      | _ => R.bad
    | _, _ => R.bad
  | none => R.bad) := rfl
@[simp] theorem mMeth_ap {f : List D → List D → R (D × List D)} {ms : List AE} : mMeth i f ms ρ = (match ρ.get i with
  | some ⟨.lst _, 1⟩ => do
    let (ss, ρ1) ← evs ms ρ
    let (ds, ρ2) ← escs ss ρ1
    match ρ2.get i with
    | some ⟨.lst l, 1⟩ => do
      let (d, l') ← f l ds
      R.ok (.v (Cell.fz d), ρ2.set i (some ⟨.lst l', 1⟩))
    | _ => R.bad
  | _ => R.bad) := rfl
@[simp] theorem mRecv_ap {chk : D → Bool} {f : List Cell → R Cell} {m : AE} {ms : List AE} : mRecv chk f m ms ρ = (do
  let (s, ρ1) ← m ρ
  match (s.cell ρ1).map (fun c => chk c.d) with
  | some true => do
    let (ss, ρ2) ← evs ms ρ1
    match cells ρ2 (s :: ss) with
    | some cs => do
      let r ← f cs
      R.ok (.v r, ρ2)
    | none => R.bad
  | _ => R.bad) := rfl
@[simp] theorem mCall_ap {f : FD} {ms : List AE} : mCall f ms ρ = (do
  let (ss, ρ1) ← evs ms ρ
  let cs ← args ρ1 ss
  if dupF (ioSlots ρ1 ss) then do
    let (r, fs) ← f cs
    R.ok (.v r, back ρ1 ss fs ρ1)
  else R.bad) := rfl
@[simp] theorem args_nil : args ρ [] = .ok [] := rfl
@[simp] theorem args_cons {s : Src} {ss : List Src} : args ρ (s :: ss) = (do let cs ← args ρ ss; match s.cell ρ with | some c => R.ok (c :: cs) | none => R.bad) := rfl
@[simp] theorem io_nil : ioSlots ρ [] = [] := rfl
@[simp] theorem io_v {c : Cell} {ss : List Src} : ioSlots ρ (.v c :: ss) = ioSlots ρ ss := rfl
@[simp] theorem io_s {ss : List Src} : ioSlots ρ (.s i :: ss) = (match ρ.get i with | some ⟨_, 0⟩ => ioSlots ρ ss | _ => i :: ioSlots ρ ss) := rfl
@[simp] theorem dupF_nil : dupF [] = true := rfl
@[simp] theorem dupF_cons {r : List Nat} : dupF (i :: r) = (!r.contains i && dupF r) := rfl
@[simp] theorem back_nil {ρ0 : Env} {cs : List Cell} : back ρ0 [] cs ρ = ρ := by cases cs <;> rfl
@[simp] theorem back_v {ρ0 : Env} {c c' : Cell} {ss : List Src} {cs : List Cell} : back ρ0 (.v c :: ss) (c' :: cs) ρ = back ρ0 ss cs ρ := rfl
@[simp] theorem back_s {ρ0 : Env} {c' : Cell} {ss : List Src} {cs : List Cell} : back ρ0 (.s i :: ss) (c' :: cs) ρ = (match ρ0.get i with | some ⟨_, 0⟩ => back ρ0 ss cs ρ | _ => back ρ0 ss cs (ρ.set i (some c'))) := rfl
theorem runDef_ap {size : Nat} {m : MS} {as : List Cell} : runDef size m as = (do
  let (fl, ρ) ← m (locks 0 as) (as.map some ++ List.replicate (size - as.length) none)
  let fs ← fins ρ 0 as
  match fl with
  | .ret c => R.ok (c, fs)
  | .next => R.ok (Cell.fz .non, fs)
  | _ => R.bad) := rfl
@[simp] theorem locks_nil {j : Nat} : locks j [] = [] := rfl
@[simp] theorem locks_cons {j : Nat} {c : Cell} {r : List Cell} : locks j (c :: r) = if c.k = 0 then locks (j + 1) r else j :: locks (j + 1) r := rfl
@[simp] theorem fins_nil {j : Nat} : fins ρ j [] = .ok [] := rfl
@[simp] theorem fins_cons {j : Nat} {c : Cell} {r : List Cell} : fins ρ j (c :: r) = (do
    let fs ← fins ρ (j + 1) r
    if c.k = 0 then R.ok (c :: fs) else match ρ.get j with
      | some c' => R.ok (c' :: fs)
      | none => R.bad) := rfl
end
/-! primitives on ints -/
section
variable {i j : Int} {k k' : Nat}
@[simp] theorem p_sub : fSub [⟨.int i, k⟩, ⟨.int j, k'⟩] = .ok (Cell.fz (.int (i - j))) := rfl
@[simp] theorem p_add : fAdd [⟨.int i, k⟩, ⟨.int j, k'⟩] = .ok (Cell.fz (.int (i + j))) := rfl
@[simp] theorem p_iadd : fIAdd [⟨.int i, k⟩, ⟨.int j, k'⟩] = .ok (Cell.fz (.int (i + j))) := rfl
@[simp] theorem p_neg : fNeg [⟨.int i, k⟩] = .ok (Cell.fz (.int (-i))) := rfl
@[simp] theorem p_cmp {p : Int → Int → Bool} : fCmp p [⟨.int i, k⟩, ⟨.int j, k'⟩] = .ok (Cell.fz (.bl (p i j))) := rfl
@[simp] theorem p_int : fInt [⟨.int i, k⟩] = .ok (Cell.fz (.int i)) := rfl
@[simp] theorem p_intB {b : Bool} : fInt [⟨.bl b, k⟩] = .ok (Cell.fz (.int (if b then 1 else 0))) := rfl
@[simp] theorem p_abs : fAbs [⟨.int i, k⟩] = .ok (Cell.fz (.int (if i < 0 then -i else i))) := rfl
theorem p_mul (h : cmul i j = true) : fMul [⟨.int i, k⟩, ⟨.int j, k'⟩] = .ok (Cell.fz (.int (i * j))) := by unfold fMul; simp [h]
theorem p_mulR (h : -(2 ^ 64) < j ∧ j < 2 ^ 64) : fMul [⟨.int i, k⟩, ⟨.int j, k'⟩] = .ok (Cell.fz (.int (i * j))) := p_mul (by unfold cmul; rw [decide_eq_true h]; simp)
theorem p_mulL (h : -(2 ^ 64) < i ∧ i < 2 ^ 64) : fMul [⟨.int i, k⟩, ⟨.int j, k'⟩] = .ok (Cell.fz (.int (i * j))) := p_mul (by unfold cmul; rw [decide_eq_true h]; simp)
theorem p_div (h : 0 < j ∧ j < 1073741824) : fDiv [⟨.int i, k⟩, ⟨.int j, k'⟩] = .ok (Cell.fz (.int (i / j))) := by unfold fDiv fI2; simp [h]
theorem p_pow (h : cpow i j = true) : fPow [⟨.int i, k⟩, ⟨.int j, k'⟩] = .ok (Cell.fz (.int (i ^ j.toNat))) := by unfold fPow fI2; simp [h]
theorem p_shl (h : cpow i j = true) : fShl [⟨.int i, k⟩, ⟨.int j, k'⟩] = .ok (Cell.fz (.int (i * 2 ^ j.toNat))) := by unfold fShl fI2; simp [h]
theorem p_shr (h : 0 ≤ j) : fShr [⟨.int i, k⟩, ⟨.int j, k'⟩] = .ok (Cell.fz (.int (i / 2 ^ j.toNat))) := by unfold fShr fI2; simp [h]
@[simp] theorem p_band : fBand [⟨.int i, k⟩, ⟨.int j, k'⟩] = .ok (Cell.fz (.int (Builtin.bitAnd i j))) := rfl
theorem p_mod (h : 0 < j) : fMod [⟨.int i, k⟩, ⟨.int j, k'⟩] = .ok (Cell.fz (.int (i % j))) := by unfold fMod fI2; simp [h]
@[simp] theorem truth_bl {b : Bool} : truth (.bl b) = some b := rfl
@[simp] theorem truth_lst {l : List D} : truth (.lst l) = some (!l.isEmpty) := rfl
@[simp] theorem truth_tup {l : List D} : truth (.tup l) = some (!l.isEmpty) := rfl
@[simp] theorem len_tup {l : List D} : fLen [⟨.tup l, k⟩] = .ok (Cell.fz (.int l.length)) := rfl
@[simp] theorem len_lst {l : List D} : fLen [⟨.lst l, k⟩] = .ok (Cell.fz (.int l.length)) := rfl
@[simp] theorem len_scr {l : List D} : fLen [⟨.scr l, k⟩] = .ok (Cell.fz (.int l.length)) := rfl
theorem atI_nat {α : Type} {l : List α} {n : Nat} (h : n < l.length) : atI l (n : Int) = some l[n] := by
  unfold atI ixN
  simp [h]
theorem p_ixL {l : List D} {d : D} (hk : k ≤ 1) (h : atI l i = some d) : fIx [⟨.lst l, k⟩, ⟨.int i, k'⟩] = .ok (Cell.fz d) := by
  show (if k ≤ 1 then _ else _) = _
  rw [if_pos hk, h]
theorem p_ixT {l : List D} {d : D} (h : atI l i = some d) : fIx [⟨.tup l, k⟩, ⟨.int i, k'⟩] = .ok (Cell.fz d) := by
  show (match atI l i with | some d => R.ok (Cell.fz d) | none => .bad) = _
  rw [h]
@[simp] theorem ix_0 {a : D} {r : List D} : atI (a :: r) 0 = some a := by
  unfold atI ixN
  simp
end
/-! ### what comes out -/
def Ret {α : Type} (r : R α) (P : α → Prop) : Prop := ∃ x, r = .ok x ∧ P x
theorem Ret.ok {α : Type} {x : α} {P : α → Prop} (h : P x) : Ret (.ok x) P := ⟨x, rfl, h⟩
@[simp] theorem Ret_ok {α : Type} {x : α} {P : α → Prop} : Ret (.ok x) P ↔ P x := ⟨fun ⟨y, e, h⟩ => by cases e; exact h, Ret.ok⟩
theorem Ret.bind {α β : Type} {r : R α} {f : α → R β} {P : α → Prop} {Q : β → Prop} (h : Ret r P) (k : ∀ x, P x → Ret (f x) Q) : Ret (r >>= f) Q := by
  obtain ⟨x, rfl, hx⟩ := h
  exact k x hx
theorem Ret.mono {α : Type} {r : R α} {P Q : α → Prop} (h : Ret r P) (k : ∀ x, P x → Q x) : Ret r Q := by
  obtain ⟨x, rfl, hx⟩ := h
  exact ⟨x, rfl, k x hx⟩
/-- a loop keeps what it keeps; it may end by a return -/
theorem loopF_inv {it : ItD} {g : MG} {body : MS} {L : List Nat} {I : List D → Env → Prop} {P : Cell → Env → Prop} (h : ∀ d r ρ, I (d :: r) ρ → Ret (g d L ρ) fun ρ1 => Ret (body L ρ1) fun x => match x.1 with
      | .ret c => P c x.2
      | .brk => False
      | _ => chkOk it x.2 = true ∧ I r x.2) : ∀ {ds : List D} {ρ : Env}, I ds ρ → Ret (loopF it g body L ds ρ) fun x => match x.1 with
      | .ret c => P c x.2
      | .next => I [] x.2
      | _ => False
  | [], ρ, hI => ⟨_, rfl, hI⟩
  | d :: r, ρ, hI => by
    obtain ⟨ρ1, e1, ⟨fl, ρ2⟩, e2, hx⟩ := h d r ρ hI
    unfold loopF
    rw [e1]
    simp only [R.ok_bind]
    rw [e2]
    simp only [R.ok_bind]
    cases fl with
    | ret c => exact ⟨_, rfl, hx⟩
    | brk => exact hx.elim
    | next => dsimp only at hx ⊢; rw [if_pos hx.1]; exact loopF_inv h hx.2
    | cont => dsimp only at hx ⊢; rw [if_pos hx.1]; exact loopF_inv h hx.2
/-- a loop that never leaves early -/
theorem loopF_go {it : ItD} {g : MG} {body : MS} {L : List Nat} {I : List D → Env → Prop} (h : ∀ d r ρ, I (d :: r) ρ → Ret (g d L ρ) fun ρ1 => Ret (body L ρ1) fun x => (x.1 = .next ∨ x.1 = .cont) ∧ chkOk it x.2 = true ∧ I r x.2) {ds : List D} {ρ : Env} (hI : I ds ρ) :
    ∃ ρ', loopF it g body L ds ρ = .ok (.next, ρ') ∧ I [] ρ' := by
  obtain ⟨⟨fl, ρ'⟩, e, hx⟩ := loopF_inv (it := it) (g := g) (body := body) (L := L) (P := fun _ _ => False) (I := I) (fun d r ρ hI => (h d r ρ hI).mono fun ρ1 h1 => h1.mono fun x hx => by
    rcases hx.1 with e | e <;> rw [e] <;> exact hx.2) hI
  cases fl with
  | ret c => exact hx.elim
  | next => exact ⟨_, e, hx⟩
  | brk => exact hx.elim
  | cont => exact hx.elim
/-- a comprehension: each datum gives one, or none -/
theorem loopC_inv {it : ItD} {g : MG} {tt : MT} {me : AE} {vs : List Nat} {I : List D → List D → Env → Prop} (h : ∀ d r acc ρ, I (d :: r) acc ρ → Ret (g d [] ρ) fun ρa => Ret (tt ρa) fun x =>
      if x.1 = true then Ret (me x.2) fun y => Ret (esc y.1 y.2) fun z => chkOk it (wipeE z.2 vs) = true ∧ I r (acc ++ [z.1.d]) (wipeE z.2 vs) else chkOk it (wipeE x.2 vs) = true ∧ I r acc (wipeE x.2 vs)) :
    ∀ {ds acc : List D} {ρ : Env}, I ds acc ρ → ∃ out ρ', loopC it g tt me vs ds ρ = .ok (out, ρ') ∧ I [] (acc ++ out) ρ'
  | [], acc, ρ, hI => ⟨[], ρ, rfl, by rw [List.append_nil]; exact hI⟩
  | d :: r, acc, ρ, hI => by
    obtain ⟨ρa, e1, ⟨b, ρb⟩, e2, hx⟩ := h d r acc ρ hI
    unfold loopC
    rw [e1]
    simp only [R.ok_bind]
    rw [e2]
    simp only [R.ok_bind]
    cases b with
    | true =>
      rw [if_pos rfl] at hx
      obtain ⟨⟨s, ρc⟩, e3, ⟨c, ρd⟩, e4, e5, hI2⟩ := hx
      obtain ⟨out, ρ', e6, hI3⟩ := loopC_inv h hI2
      dsimp only at e4
      refine ⟨c.d :: out, ρ', ?_, by simpa using hI3⟩
      simp only [if_true]
      rw [e3]
      simp only [R.ok_bind]
      rw [e4]
      simp only [R.ok_bind]
      rw [if_pos e5, e6]
      rfl
    | false =>
      rw [if_neg (by intro z; cases z)] at hx
      obtain ⟨out, ρ', e6, hI3⟩ := loopC_inv h hx.2
      refine ⟨out, ρ', ?_, hI3⟩
      simp only [Bool.false_eq_true, if_false]
      dsimp only at hx
      rw [if_pos hx.1, e6]
end Z

/-! Z: what the laws draw. -/
namespace Z
open PySem PySem.Spec PyProof.Rows L2
def m_begin : MS := (mSeq (mRet (mLst [(mComp (mItems (aVar 0)) (gN 1) mYes (mPrim fInt [(aVar 1)]) [1]), (aC (.int 0)), (aC (.int 0)), (aC (.int 7))])) mNext)
def c_begin : FD := runDef 2 m_begin
def m_draw : MS := (mSeq (mIf (mTest (mPrim fGt [(mPrim fIx [(aVar 0), (aC (.int 2))]), (aC (.int 0))])) (mSeq (mSet 2 (mPrim fIx [(aVar 0), (aC (.int 2))])) (mSeq (mSetIx 0 (aC (.int 2)) (mPrim fDiv [(aVar 2), (aVar 1)])) (mSeq (mRet (mPrim fMod [(mPrim fInt [(aVar 2)]), (aVar 1)])) mNext))) mNext) (mSeq (mSet 3 (aC (.int 0))) (mSeq (mIf (mTest (mPrim fLt [(mPrim fIx [(aVar 0), (aC (.int 1))]), (mPrim fLen [(mPrim fIx [(aVar 0), (aC (.int 0))])])])) (mSeq (mSet 4 (mPrim fIx [(mPrim fIx [(aVar 0), (aC (.int 0))]), (mPrim fIx [(aVar 0), (aC (.int 1))])])) (mSeq (mSet 3 (mPrim fAdd [(mPrim fMul [(aC (.int 2)), (mPrim fAbs [(aVar 4)])]), (mPrim fInt [(mPrim fLt [(aVar 4), (aC (.int 0))])])])) mNext)) mNext) (mSeq (mAugIx 0 (aC (.int 1)) fIAdd (aC (.int 1))) (mSeq (mIf (mTest (mPrim fGe [(aVar 3), (mPrim fMul [(aC (.int 2)), (mPrim fPow [(aC (.int 10)), (aC (.int 18))])])])) (mSeq (mSet 2 (mPrim fMod [(mPrim fInt [(mPrim fDiv [(aVar 3), (aC (.int 2))])]), (mPrim fShl [(aC (.int 1)), (aC (.int 6000))])])) (mSeq (mSetIx 0 (aC (.int 2)) (mPrim fDiv [(aVar 2), (aVar 1)])) (mSeq (mRet (mPrim fMod [(mPrim fInt [(aVar 2)]), (aVar 1)])) mNext))) mNext) (mSeq (mSetIx 0 (aC (.int 3)) (mPrim fMod [(mPrim fInt [(mPrim fAdd [(mPrim fAdd [(mPrim fAdd [(mPrim fMul [(mPrim fIx [(aVar 0), (aC (.int 3))]), (aC (.int 48271))]), (mPrim fMul [(mPrim fMod [(mPrim fInt [(aVar 3)]), (aC (.int 2147483629))]), (aC (.int 16807))])]), (mPrim fMul [(mPrim fIx [(aVar 0), (aC (.int 1))]), (aC (.int 69621))])]), (aC (.int 11))])]), (aC (.int 2147483647))])) (mSeq (mRet (mPrim fMod [(mPrim fInt [(mPrim fDiv [(mPrim fIx [(aVar 0), (aC (.int 3))]), (aC (.int 16))])]), (aVar 1)])) mNext)))))))
def c_draw : FD := runDef 5 m_draw
def m_pick : MS := (mSeq (mRet (mPrim fIx [(aVar 1), (mCall c_draw [(aVar 0), (mPrim fLen [(aVar 1)])])])) mNext)
def c_pick : FD := runDef 2 m_pick
def m_rare : MS := (mSeq (mRet (mPrim fEq [(mCall c_draw [(aVar 0), (aVar 1)]), (mPrim fDiv [(aVar 1), (aC (.int 2))])])) mNext)
def c_rare : FD := runDef 2 m_rare
def m_shuffled : MS := (mSeq (mSet 2 (mPrim fList [(aVar 1)])) (mSeq (mSet 3 (mLst [])) (mSeq (mFor (mRange1 (mPrim fLen [(aVar 2)])) (gN 4) (mSeq (mExpr (mMeth 3 fAppend [(mMeth 2 fPop1 [(mCall c_draw [(aVar 0), (mPrim fLen [(aVar 2)])])])])) mNext)) (mSeq (mRet (aVar 3)) mNext))))
def c_shuffled : FD := runDef 5 m_shuffled
/-- the state that is drawn from -/
def dS (ns : List Int) (a b e : Int) : Cell := ⟨.lst [.lst (ns.map D.int), .int a, .int b, .int e], 1⟩
def DSt (c : Cell) : Prop := ∃ (ns : List Int) (a b e : Int), c = dS ns a b e ∧ 0 ≤ a ∧ 0 ≤ b ∧ 0 ≤ e
theorem draw_ok {c : Cell} {many : Int} (h : DSt c) (h0 : 0 < many) (h1 : many < 1073741824) : ∃ (n : Int) (c' : Cell), c_draw [c, ⟨.int many, 0⟩] = .ok (⟨.int n, 0⟩, [c', ⟨.int many, 0⟩]) ∧ DSt c' ∧ 0 ≤ n ∧ n < many := by
  obtain ⟨ns, a, b, e, rfl, ha, hb, he⟩ := h
  have hm : ∀ x : Int, 0 ≤ x % many ∧ x % many < many := fun x => ⟨Int.emod_nonneg _ (by omega), Int.emod_lt_of_pos _ h0⟩
  have i1 : ∀ (x y z t : D), atI [x, y, z, t] 1 = some y := fun _ _ _ _ => rfl
  have i2 : ∀ (x y z t : D), atI [x, y, z, t] 2 = some z := fun _ _ _ _ => rfl
  have i3 : ∀ (x y z t : D), atI [x, y, z, t] 3 = some t := fun _ _ _ _ => rfl
  have s1 : ∀ (x y z t u : D), setD [x, y, z, t] 1 u = some [x, u, z, t] := fun _ _ _ _ _ => rfl
  have s2 : ∀ (x y z t u : D), setD [x, y, z, t] 2 u = some [x, y, u, t] := fun _ _ _ _ _ => rfl
  have s3 : ∀ (x y z t u : D), setD [x, y, z, t] 3 u = some [x, y, z, u] := fun _ _ _ _ _ => rfl
  unfold c_draw m_draw
  by_cases hb0 : 0 < b
  · refine ⟨b % many, dS ns a (b / many) e, ?_, ⟨ns, a, b / many, e, rfl, ha, Int.ediv_nonneg hb (by omega), he⟩, hm b⟩
    simp [runDef_ap, dS, Env.get, Env.set, aVar_ap, p_ixL, i1, i2, i3, s1, s2, s3, hb0, p_div, p_mod, h0, h1]
  · have hb1 : b = 0 := by omega
    have c1 : cpow 10 18 = true := rfl
    have c2 : cpow 1 6000 = true := rfl
    have big : (0 : Int) < 2 ^ 6000 := by exact Int.pow_pos (by decide)
    by_cases ha1 : a < ns.length
    · obtain ⟨x, hx⟩ : ∃ x : Int, atI (ns.map D.int) a = some (.int x) := by
        obtain ⟨m, rfl⟩ := Int.eq_ofNat_of_zero_le ha
        refine ⟨ns[m]'(by simpa using ha1), ?_⟩
        rw [atI_nat (by simpa using ha1)]
        simp
      obtain ⟨z, hz, hz0⟩ : ∃ z : Int, z = 2 * (if x < 0 then -x else x) + (if x < 0 then 1 else 0) ∧ 0 ≤ z := ⟨_, rfl, by split <;> omega⟩
      by_cases hs : 2000000000000000000 ≤ z
      · refine ⟨z / 2 % 2 ^ 6000 % many, dS ns (a + 1) (z / 2 % 2 ^ 6000 / many) e, ?_, ⟨ns, _, _, e, rfl, by omega, Int.ediv_nonneg (Int.emod_nonneg _ (by omega)) (by omega), he⟩, hm _⟩
        simp [runDef_ap, dS, Env.get, Env.set, aVar_ap, p_ixL, i1, i2, i3, s1, s2, s3, hb1, p_div, p_mod, p_mulL, p_mulR, p_pow, p_shl, c1, c2, h0, h1, ha1, hx, ← hz, hs, big]
      · refine ⟨((e * 48271 + z % 2147483629 * 16807 + (a + 1) * 69621 + 11) % 2147483647) / 16 % many, dS ns (a + 1) 0 ((e * 48271 + z % 2147483629 * 16807 + (a + 1) * 69621 + 11) % 2147483647), ?_, ⟨ns, _, _, _, rfl, by omega, by omega, Int.emod_nonneg _ (by decide)⟩, hm _⟩
        simp [runDef_ap, dS, Env.get, Env.set, aVar_ap, p_ixL, i1, i2, i3, s1, s2, s3, hb1, p_div, p_mod, p_mulL, p_mulR, p_pow, p_shl, c1, c2, h0, h1, ha1, hx, ← hz, hs, big]
    · have hs : ¬ (2000000000000000000 : Int) ≤ 0 := by decide
      refine ⟨((e * 48271 + 0 % 2147483629 * 16807 + (a + 1) * 69621 + 11) % 2147483647) / 16 % many, dS ns (a + 1) 0 ((e * 48271 + 0 % 2147483629 * 16807 + (a + 1) * 69621 + 11) % 2147483647), ?_, ⟨ns, _, _, _, rfl, by omega, by omega, Int.emod_nonneg _ (by decide)⟩, hm _⟩
      simp [runDef_ap, dS, Env.get, Env.set, aVar_ap, p_ixL, i1, i2, i3, s1, s2, s3, hb1, p_div, p_mod, p_mulL, p_mulR, p_pow, p_shl, c1, c2, h0, h1, ha1,  hs, big]
/-- the script's numbers -/
theorem begin_ok {ns : List Int} (hl : ns.length ≤ 63) : c_begin [⟨.scr (ns.map D.int), 0⟩] = .ok (dS ns 0 0 7, [⟨.scr (ns.map D.int), 0⟩]) := by
  obtain ⟨out, ρ', e, hI⟩ := loopC_inv (it := ⟨ns.map D.int, none⟩) (g := gN 1) (tt := mYes) (me := mPrim fInt [aVar 1]) (vs := [1]) (I := fun l acc ρ => acc ++ l = ns.map D.int ∧ (∀ d ∈ l, ∃ i : Int, d = .int i) ∧ ρ = [some ⟨.scr (ns.map D.int), 0⟩, none])
    (fun d r acc ρ ⟨h1, h2, h3⟩ => by
      obtain ⟨i, rfl⟩ := h2 d (List.mem_cons_self ..)
      subst h3
      simp [aVar_ap, wipeE, chkOk, ← h1]
      exact fun x hx => h2 x (List.mem_cons_of_mem _ hx)) (ds := ns.map D.int) (acc := []) (ρ := [some ⟨.scr (ns.map D.int), 0⟩, none]) ⟨rfl, by simp, rfl⟩
  obtain ⟨h1, _, h3⟩ := hI
  subst h3
  simp only [List.nil_append, List.append_nil] at h1
  subst h1
  have hl : ns.length ≤ 16777216 := by omega
  simp [c_begin, m_begin, runDef_ap, itemsOf, aVar_ap, ownOk, chkOk, wipeE, restore, e, dS, hl]
theorem DSt.k {c : Cell} (h : DSt c) : ∃ l, c = ⟨.lst l, 1⟩ := by
  obtain ⟨ns, a, b, e, rfl, _⟩ := h
  exact ⟨_, rfl⟩
theorem get_mem {l : List D} {n : Int} (h : 0 ≤ n) (h1 : n < l.length) : ∃ d, atI l n = some d ∧ d ∈ l := by
  obtain ⟨m, rfl⟩ := Int.eq_ofNat_of_zero_le h
  have hm : m < l.length := by omega
  exact ⟨l[m], atI_nat hm, List.getElem_mem hm⟩
theorem pick_lst {c : Cell} {l : List D} {k : Nat} (h : DSt c) (hk : k ≤ 1) (h0 : 0 < l.length) (h1 : l.length < 1073741824) : ∃ (d : D) (c' : Cell), c_pick [c, ⟨.lst l, k⟩] = .ok (⟨d, 0⟩, [c', ⟨.lst l, k⟩]) ∧ DSt c' ∧ d ∈ l := by
  obtain ⟨n, c', e, hc, hn⟩ := draw_ok (many := (l.length : Int)) h (by omega) (by omega)
  obtain ⟨m, rfl⟩ := h.k
  obtain ⟨m', rfl⟩ := hc.k
  obtain ⟨d, hd, hm⟩ := get_mem hn.1 hn.2
  refine ⟨d, _, ?_, hc, hm⟩
  obtain rfl | rfl : k = 0 ∨ k = 1 := by omega
  all_goals simp [c_pick, m_pick, runDef_ap, aVar_ap, e, p_ixL, hd]
theorem pick_tup {c : Cell} {l : List D} (h : DSt c) (h0 : 0 < l.length) (h1 : l.length < 1073741824) : ∃ (d : D) (c' : Cell), c_pick [c, ⟨.tup l, 0⟩] = .ok (⟨d, 0⟩, [c', ⟨.tup l, 0⟩]) ∧ DSt c' ∧ d ∈ l := by
  obtain ⟨n, c', e, hc, hn⟩ := draw_ok (many := (l.length : Int)) h (by omega) (by omega)
  obtain ⟨m, rfl⟩ := h.k
  obtain ⟨m', rfl⟩ := hc.k
  obtain ⟨d, hd, hm⟩ := get_mem hn.1 hn.2
  refine ⟨d, _, ?_, hc, hm⟩
  simp [c_pick, m_pick, runDef_ap, aVar_ap, e, p_ixT, hd]
theorem pick_str {c : Cell} {z : Str} (h : DSt c) (h0 : 0 < z.length) (h1 : z.length ≤ 16777216) : ∃ (s : Nat) (c' : Cell), c_pick [c, ⟨.str z, 0⟩] = .ok (⟨.str ⟨#[s]⟩, 0⟩, [c', ⟨.str z, 0⟩]) ∧ DSt c' ∧ s ∈ z.cps.toList := by
  obtain ⟨n, c', e, hc, hn⟩ := draw_ok (many := (z.length : Int)) h (by omega) (by omega)
  obtain ⟨m, rfl⟩ := h.k
  obtain ⟨m', rfl⟩ := hc.k
  obtain ⟨j, rfl⟩ := Int.eq_ofNat_of_zero_le hn.1
  have hj : j < z.cps.toList.length := by have := hn.2; show j < z.cps.toList.length; rw [Array.length_toList]; exact Int.ofNat_lt.mp this
  have hd := atI_nat hj
  refine ⟨z.cps.toList[j], _, ?_, hc, List.getElem_mem hj⟩
  have hx : fIx [⟨.str z, 0⟩, ⟨.int (j : Int), 0⟩] = .ok ⟨.str ⟨#[z.cps.toList[j]]⟩, 0⟩ := by
    show (if z.length ≤ 16777216 then _ else _) = _
    rw [if_pos h1, hd]
    rfl
  have hl : fLen [⟨.str z, 0⟩] = .ok ⟨.int z.length, 0⟩ := by
    show (if z.length ≤ 16777216 then _ else _) = _
    rw [if_pos h1]
    rfl
  simp [c_pick, m_pick, runDef_ap, aVar_ap, e, hx, hl]
theorem rare_ok {c : Cell} {many : Int} (h : DSt c) (h0 : 0 < many) (h1 : many < 1073741824) : ∃ (b : Bool) (c' : Cell), c_rare [c, ⟨.int many, 0⟩] = .ok (⟨.bl b, 0⟩, [c', ⟨.int many, 0⟩]) ∧ DSt c' := by
  obtain ⟨n, c', e, hc, hn⟩ := draw_ok h h0 h1
  obtain ⟨m, rfl⟩ := h.k
  obtain ⟨m', rfl⟩ := hc.k
  refine ⟨(D.int n).eqv (.int (many / 2)), _, ?_, hc⟩
  simp [c_rare, m_rare, runDef_ap, aVar_ap, e, p_div, fEq, D.okd]
theorem erase_perm : ∀ {l : List D} {m : Nat} (h : m < l.length), (l[m] :: l.eraseIdx m).Perm l
  | a :: l, 0, _ => List.Perm.refl _
  | a :: l, m + 1, h => (List.Perm.swap _ _ _).trans ((erase_perm (l := l) (m := m) (by simpa using h)).cons a)
theorem pop_ok {l : List D} {n : Int} (h : 0 ≤ n) (h1 : n < l.length) (hl : l.length < 1073741824) : ∃ d l', fPop1 l [.int n] = .ok (d, l') ∧ (d :: l').Perm l := by
  obtain ⟨m, rfl⟩ := Int.eq_ofNat_of_zero_le h
  have hm : m < l.length := by omega
  refine ⟨l[m], l.eraseIdx m, ?_, erase_perm hm⟩
  have e : seqIndex? (m : Int) l.length = some m := by
    unfold seqIndex?
    have : ¬ ((m : Int) < 0) := by omega
    simp [this, hm]
  unfold fPop1
  simp only [e]
  rw [if_pos ⟨by omega, by omega⟩, List.getElem?_eq_getElem hm]
theorem rgB_nat {n : Nat} (h : n ≤ 16777216) : rgB 0 (n : Int) = true := by
  unfold rgB
  rw [decide_eq_true_eq]
  omega
theorem rgD_nat {n : Nat} : rgD 0 (n : Int) = (List.range n).map fun (i : Nat) => D.int (i : Int) := by
  unfold rgD
  simp
theorem shuffled_ok {c : Cell} {l : List D} {k : Nat} (h : DSt c) (hk : k ≤ 1) (h1 : l.length ≤ 16777216) : ∃ (l' : List D) (c' : Cell), c_shuffled [c, ⟨.lst l, k⟩] = .ok (⟨.lst l', 1⟩, [c', ⟨.lst l, k⟩]) ∧ DSt c' ∧ l'.Perm l := by
  obtain ⟨ρ', e, hI⟩ := loopF_go (it := ⟨rgD 0 (l.length : Int), none⟩) (g := gN 4) (body := mSeq (mExpr (mMeth 3 fAppend [mMeth 2 fPop1 [mCall c_draw [aVar 0, mPrim fLen [aVar 2]]]])) mNext) (L := locks 0 [c, ⟨.lst l, k⟩])
    (I := fun r ρ => ∃ c' left found x, ρ = [some c', some ⟨.lst l, k⟩, some ⟨.lst left, 1⟩, some ⟨.lst found, 1⟩, x] ∧ DSt c' ∧ left.length = r.length ∧ (found ++ left).Perm l)
    (fun d r ρ ⟨c', left, found, x, h1, h2, h3, h4⟩ => by
      subst h1
      have hlen := h4.length_eq
      rw [List.length_append, h3, List.length_cons] at hlen
      obtain ⟨n, c2, e, hc, hn⟩ := draw_ok (many := (left.length : Int)) h2 (by rw [h3, List.length_cons]; omega) (by rw [h3, List.length_cons]; omega)
      obtain ⟨y, left', e2, hp⟩ := pop_ok (l := left) hn.1 hn.2 (by rw [h3, List.length_cons]; omega)
      obtain ⟨m, rfl⟩ := h.k
      obtain ⟨m1, rfl⟩ := h2.k
      obtain ⟨m2, rfl⟩ := hc.k
      have hf : found.length < 16777216 := by omega
      have e3 : fAppend found [y] = .ok (.non, found ++ [y]) := by unfold fAppend; simp [hf]
      have hl' : left'.length = r.length := by have := hp.length_eq; rw [h3] at this; simpa using this
      have hp2 : (found ++ [y] ++ left').Perm l := by
        rw [List.append_assoc]
        exact (List.Perm.append_left found hp).trans h4
      obtain rfl | rfl : k = 0 ∨ k = 1 := by omega
      all_goals simp -implicitDefEqProofs [aVar_ap, e, e2, e3, chkOk]

      all_goals exact ⟨_, _, _, ⟨rfl, rfl, rfl⟩, hc, hl', hp2⟩)
    (ds := rgD 0 (l.length : Int)) (ρ := [some c, some ⟨.lst l, k⟩, some ⟨.lst l, 1⟩, some ⟨.lst [], 1⟩, none]) ⟨c, l, [], none, rfl, h, by rw [rgD_length]; omega, by simp⟩
  obtain ⟨c', left, found, x, rfl, h2, h3, h4⟩ := hI
  obtain ⟨m, rfl⟩ := h.k
  obtain ⟨m1, rfl⟩ := h2.k
  have : left = [] := List.length_eq_zero_iff.mp h3
  subst this
  refine ⟨found, _, ?_, h2, by simpa using h4⟩
  have hL : fList [⟨.lst l, k⟩] = .ok ⟨.lst l, 1⟩ := by
    show (if k ≤ 1 then _ else _) = _
    rw [if_pos hk]
  obtain rfl | rfl : k = 0 ∨ k = 1 := by omega
  all_goals
    simp only [locks_cons, locks_nil] at e
    simp at e
    simp -implicitDefEqProofs [c_shuffled, m_shuffled, runDef_ap, aVar_ap, hL, rgB_nat h1, e]
end Z

namespace Z
open PySem PySem.Spec PyProof.Rows L2
/-! ### texts -/
def Wd (z : Str) : Prop := z.length ≤ 1921 ∧ D.okd.strOk z = true
theorem strOk_iff {z : Str} : D.okd.strOk z = true ↔ ∀ c ∈ z.cps.toList, c < 0x110000 := by
  unfold D.okd.strOk
  rw [← Array.all_toList, List.all_eq_true]
  simp
theorem app_cps {x y : Str} : (x ++ y).cps = x.cps ++ y.cps := rfl
theorem app_len {x y : Str} : (x ++ y).length = x.length + y.length := by show (x.cps ++ y.cps).size = _; rw [Array.size_append]; rfl
theorem strOk_app {x y : Str} (h : D.okd.strOk x = true) (h' : D.okd.strOk y = true) : D.okd.strOk (x ++ y) = true := by
  rw [strOk_iff] at *
  intro c hc
  rw [app_cps, Array.toList_append, List.mem_append] at hc
  exact hc.elim (h c) (h' c)
theorem strOk_one {c : Nat} (h : c < 0x110000) : D.okd.strOk ⟨#[c]⟩ = true := by
  rw [strOk_iff]
  intro d hd
  simp at hd
  omega
theorem log2_small {i : Int} (h : i.natAbs < 10 ^ 20) : i.natAbs.log2 < 1920 := by
  by_cases h0 : i.natAbs = 0
  · rw [h0]; decide
  · have := Nat.log2_lt h0 (k := 67)
    have : i.natAbs.log2 < 67 := this.mpr (by omega)
    omega
def tS (i : Int) : Str := Str.ofString (toString i)
theorem wd_int {i : Int} (h : i.natAbs < 10 ^ 20) : Wd (tS i) := by
  refine ⟨int_text_len_1921 (log2_small h), ?_⟩
  rw [strOk_iff]
  unfold tS
  rw [Str.ofString_eq_toList]
  intro c hc
  simp at hc
  obtain ⟨a, ha, rfl⟩ := hc
  have := int_ascii i a ha
  omega
theorem f_str {i : Int} {k : Nat} (h : i.natAbs < 10 ^ 20) : fStr [⟨.int i, k⟩] = .ok ⟨.str (tS i), 0⟩ := by
  show (if i.natAbs.log2 < 1920 then _ else _) = _
  rw [if_pos (log2_small h)]
  rfl
theorem strOk_join {a : Str} (ha : D.okd.strOk a = true) : ∀ {ws : List Str}, (∀ w ∈ ws, D.okd.strOk w = true) → D.okd.strOk (Str.join a ws) = true
  | [], _ => by
    show D.okd.strOk Str.empty = true
    decide +kernel
  | [x], h => h x (List.mem_cons_self ..)
  | x :: y :: r, h => strOk_app (strOk_app (h x (List.mem_cons_self ..)) ha) (strOk_join ha fun w hw => h w (List.mem_cons_of_mem _ hw))
theorem sum_wd : ∀ {ws : List Str}, (∀ w ∈ ws, Wd w) → (ws.map (·.length)).sum ≤ ws.length * 1921
  | [], _ => by simp
  | x :: r, h => by
    have := (h x (List.mem_cons_self ..)).1
    have := sum_wd (ws := r) fun w hw => h w (List.mem_cons_of_mem _ hw)
    simp only [List.map_cons, List.sum_cons, List.length_cons]
    omega
/-- " ".join(words) -/
theorem f_join {ws : List Str} {k : Nat} (hk : k ≤ 1) (h : ∀ w ∈ ws, Wd w) (hl : ws.length ≤ 5000) : fJoin [⟨.str " ", 0⟩, ⟨.lst (ws.map D.str), k⟩] = .ok ⟨.str (Txt.join " " ws), 0⟩ := by
  unfold fJoin
  simp only [itemsT, asStrs_map]
  rw [if_pos hk, if_pos]
  · rfl
  · have := sum_wd h
    have e : Str.length (" " : Str) = 1 := by decide +kernel
    rw [e]
    omega
theorem join_ok {ws : List Str} (h : ∀ w ∈ ws, Wd w) : D.okd.strOk (Txt.join " " ws) = true := by
  unfold Txt.join
  rw [StrLaws.glued_eq_join]
  exact strOk_join (by decide +kernel) fun w hw => (h w hw).2
/-! ### == of scalars -/
theorem f_eqS {x y : Str} {k k' : Nat} (h : D.okd.strOk x = true) (h' : D.okd.strOk y = true) : fEq [⟨.str x, k⟩, ⟨.str y, k'⟩] = .ok ⟨.bl (decide (x = y)), 0⟩ := by
  unfold fEq
  have e : D.eqv (.str x) (.str y) = decide (x = y) := by
    show (x == y) = _
    by_cases q : x = y <;> simp [q]
  simp only [D.okd, h, h', Bool.and_true, if_true, e]
  rfl
@[simp] theorem f_eqI {i j : Int} {k k' : Nat} : fEq [⟨.int i, k⟩, ⟨.int j, k'⟩] = .ok ⟨.bl (decide (i = j)), 0⟩ := by
  unfold fEq
  have e : D.eqv (.int i) (.int j) = decide (i = j) := by
    show (i == j) = _
    by_cases q : i = j <;> simp [q]
  simp only [D.okd, Bool.and_true, if_true, e]
  rfl
/-! ### the computing, with proofs of each step -/
@[simp] theorem isi_str {x : Str} {k : Nat} : fIsi "str" [⟨.str x, k⟩] = .ok ⟨.bl true, 0⟩ := by unfold fIsi; simp [isT]
theorem f_app {l : List D} {d : D} (h : l.length ≤ 10000) : fAppend l [d] = .ok (.non, l ++ [d]) := by
  unfold fAppend
  simp only
  rw [if_pos (by omega)]
theorem f_ext {l m : List D} (h : l.length ≤ 10000) (h' : m.length ≤ 10000) : fExtend l [.lst m] = .ok (.non, l ++ m) := by
  unfold fExtend
  simp only
  rw [if_pos (by omega)]
theorem f_addL {l m : List D} {k k' : Nat} (hk : k ≤ 1) (hk' : k' ≤ 1) (h : l.length ≤ 10000) (h' : m.length ≤ 10000) : fAdd [⟨.lst l, k⟩, ⟨.lst m, k'⟩] = .ok ⟨.lst (l ++ m), 1⟩ := by
  unfold fAdd
  simp only
  rw [if_pos ⟨hk, hk', by omega⟩]
@[simp] theorem f_listT {l : List D} {k : Nat} : fList [⟨.tup l, k⟩] = .ok ⟨.lst l, 1⟩ := rfl
@[simp] theorem f_tupL1 {l : List D} : fTuple [⟨.lst l, 1⟩] = .ok ⟨.tup l, 0⟩ := rfl
@[simp] theorem ix_1 {a b : D} {r : List D} : atI (a :: b :: r) 1 = some b := by
  have h : 1 < (a :: b :: r).length := by simp
  exact (atI_nat h).trans rfl
@[simp] theorem ix_2 {a b c : D} {r : List D} : atI (a :: b :: c :: r) 2 = some c := by
  have h : 2 < (a :: b :: c :: r).length := by simp
  exact (atI_nat h).trans rfl
@[simp] theorem ix_3 {a b c d : D} {r : List D} : atI (a :: b :: c :: d :: r) 3 = some d := by
  have h : 3 < (a :: b :: c :: d :: r).length := by simp
  exact (atI_nat h).trans rfl

theorem small_le {n : Nat} (h : n ≤ 5000) : n ≤ 16777216 := by omega
/-- a comprehension without a condition over frozen data: elt is computed from the datum -/
theorem comp_map {g : MG} {me : AE} {vs : List Nat} {ρ0 : Env} {f : D → D} {it : ItD} (hit : it.chk = none) {ds : List D} (h : ∀ d ∈ ds, ∃ ρa s ρc ρd k, g d [] (wipeE ρ0 vs) = .ok ρa ∧ me ρa = .ok (s, ρc) ∧ esc s ρc = .ok (⟨f d, k⟩, ρd) ∧ wipeE ρd vs = wipeE ρ0 vs) :
    loopC it g mYes me vs ds (wipeE ρ0 vs) = .ok (ds.map f, wipeE ρ0 vs) := by
  induction ds with
  | nil => rfl
  | cons d r ih =>
    obtain ⟨ρa, s, ρc, ρd, k, e1, e2, e3, e4⟩ := h d (List.mem_cons_self ..)
    unfold loopC
    have ec : chkOk it (wipeE ρ0 vs) = true := by unfold chkOk; rw [hit]
    rw [e1]
    simp only [R.ok_bind, mYes_ap, if_true]
    rw [e2]
    simp only [R.ok_bind]
    rw [e3]
    simp only [R.ok_bind]
    rw [e4, if_pos ec, ih fun x hx => h x (List.mem_cons_of_mem _ hx)]
    rfl
end Z

/-! Z: calls by keywords. -/
namespace Z
open PySem PySem.Spec PyProof.Rows L2
theorem pe_callK0 {X : Cx} {CX : CXT} {k : Nat} {f : Addr} {fd : FuncData} {ps ks : List Str} {sp : Sp} {E : XK} {x : Str} {p pos : Pos} {kws : List Keyword} {tk : TA} {g : List Value → List Value → List Value} {gV : List V → List V → List V}
    (F : FnOk X.prog X.w X.K X.mg X.base CX k f fd ps sp) (hr : Room k X.A) (hg : Gl X x) (hm : X.mg x = some (.ref f)) (hk : PySem.W.keepIn X.K (.ref f) = true) (hb : KBinds X.K fd ps ks g gV) (hx : Passes CX X E) (hkw : PK X kws tk)
    (hall : (backToKw pos (keywordEach kws X.env)).all (·.1.isSome) = true) (hks : (backToKw pos (keywordEach kws X.env)).filterMap (·.1) = ks) (hdb : (x == ("__debug__" : Str)) = false)
    (hpl : ((backTo pos (starEach [] X.env)).any (·.1) || (backToKw pos (keywordEach kws X.env)).any (·.1.isNone)) = false) :
    PE X (.Call (.Name x p) [] kws pos) (fun σ H Q => tk σ H fun zs H2 => sp (gV [] zs) H2 Q E) := by
  refine ⟨fun pins s σ H Q I h => ?_⟩
  refine wpAny_Call_Name_kw (ld_glob I hg hm ?_ hdb)
  refine PySem.W.callWith_KW0 (h₀ := X.base) I.ok.mod.kin hk hall ?_ hpl
  refine thn (hkw.run pos pins s σ H _ I h) fun ws s2 ⟨zs, H2, I2, rz, q2⟩ => ⟨I2.kIn, ?_⟩
  rw [hks]
  exact run_fnk (us := []) (vs := []) F hr hb hx I2 .nil rz q2
structure SKs (X : Cx) (kws : List Keyword) (ms : List AE) : Prop where
  ex : ∃ t, PK X kws t ∧ ∀ (n : Nat) (σ : L2.St) (H : Hp) (w : OM) (ρ : Env) (ss : List Src) (ρ' : Env) (Q : List V → Hp → Prop), Ok X.K H w σ ρ → evs ms ρ = .ok (ss, ρ') →
    (∀ vs H' w', Ok X.K H' w' σ ρ' → Step n H w H' w' → SrcsAt X.K H' w' σ n ss vs → Q vs H') → t σ H Q
theorem sk_nil {X : Cx} : SKs X [] [] := ⟨_, pk_nil, fun n σ H w ρ ss ρ' Q ok h k => by
  cases h
  exact k [] H w ok Step.refl trivial⟩
theorem sk_cons {X : Cx} {e : Expr} {m : AE} {kws : List Keyword} {ms : List AE} {nm : Option Str} {kpos : Pos} (ha : SA X e m) (hr : SKs X kws ms) : SKs X (⟨nm, e, kpos⟩ :: kws) (m :: ms) := by
  obtain ⟨t, p, h⟩ := ha.ex
  obtain ⟨u, q, g⟩ := hr.ex
  refine ⟨_, pk_cons p q, fun n σ H w ρ ss ρ' Q ok hm k => ?_⟩
  obtain ⟨⟨s, ρ1⟩, e1, hm⟩ := R.of_bind hm
  obtain ⟨⟨ss2, ρ2⟩, e2, hm⟩ := R.of_bind hm
  cases hm
  refine h n σ H w ρ s ρ1 _ ok e1 fun v H1 w1 ok1 st1 s1 => ?_
  refine g (n + 1) σ H1 w1 ρ1 ss2 _ _ ok1 e2 fun vs H2 w2 ok2 st2 s2 => ?_
  exact k _ H2 w2 ok2 (st1.trans (st2.mono (Nat.le_succ n))) ⟨s1.step st2 (Nat.lt_succ_self n), s2⟩
/-! put in another order -/
def reord {α : Type} (perm : List Nat) (l : List α) : List α := perm.filterMap (l[·]?)
def kwV {α : Type} (perm : List Nat) (n : Nat) (us ws : List α) : List α := if us.isEmpty && decide (ws.length = n) then reord perm ws else []
theorem vals_get {vs : List V} {us : List Value} (h : Vals vs us) (i : Nat) : (vs[i]? = none ∧ us[i]? = none) ∨ ∃ v u, vs[i]? = some v ∧ us[i]? = some u ∧ RelV v u := by
  induction h generalizing i with
  | nil => exact .inl ⟨rfl, rfl⟩
  | cons r t ih => cases i with
    | zero => exact .inr ⟨_, _, rfl, rfl, r⟩
    | succ i => simpa using ih i
theorem vals_reord {perm : List Nat} {vs : List V} {us : List Value} (h : Vals vs us) : Vals (reord perm vs) (reord perm us) := by
  induction perm with
  | nil => exact .nil
  | cons i r ih =>
    unfold reord at ih ⊢
    rcases vals_get h i with ⟨e1, e2⟩ | ⟨v, u, e1, e2, rv⟩
    · rw [List.filterMap_cons_none e1, List.filterMap_cons_none e2]; exact ih
    · rw [List.filterMap_cons_some e1, List.filterMap_cons_some e2]; exact .cons rv ih
theorem kb_of {K : PySem.W.Frag} {x qual : Str} {params : Arguments} {body : List Stmt} {scope : Scope} {kws : List (Str × V)} {f : Addr} {fd : FuncData} {ps ks : List Str} {perm : List Nat} (F : FunD K x qual params body scope [] kws f fd) (hps : ps.length ≠ 0)
    (h : ∀ (kV doc pm : Value) (an : Option Addr) (cdv ct : Value) (ws : List Value), ws.length = ks.length → bindArgs (PySem.W.fnOf x qual params body scope .none kV doc pm an cdv ct) ⟨[], ks.zip ws⟩ = pure (ps.zip (reord perm ws))) :
    KBinds K fd ps ks (kwV perm ks.length) (kwV perm ks.length) := by
  obtain ⟨oc, od, dV, kV, doc, pm, an, cdv, ct, osl, rfl, lk, hcd, hD, hK⟩ := F.ex
  rcases hD with ⟨_, rfl⟩ | ⟨e, _⟩
  · refine ⟨fun s us ws X hl => ?_, fun {vs us zs ws} r1 r2 => ?_⟩
    · unfold kwV at hl ⊢
      split at hl
      · rename_i hc
        rw [if_pos hc]
        rw [Bool.and_eq_true, decide_eq_true_eq, List.isEmpty_iff] at hc
        obtain ⟨rfl, hc⟩ := hc
        exact .of_eq (h kV doc pm an cdv ct ws hc)
      · exact absurd hl.symm hps
    · unfold kwV
      have e1 : vs.isEmpty = us.isEmpty := by cases r1 <;> rfl
      rw [e1, r2.length]
      split
      · exact vals_reord r2
      · exact .nil
  · exact absurd rfl e
/-- may stand anywhere among the arguments: a slot, or frozen -/
def Src.free : Src → Bool
  | .s _ => true
  | .v c => decide (c.k = 0)
theorem SrcAt.any {K : PySem.W.Frag} {H : Hp} {w : OM} {σ : L2.St} {n m : Nat} {s : Src} {v : V} (h : SrcAt K H w σ n s v) (hf : s.free = true) : SrcAt K H w σ m s v := by
  cases s with
  | s i => exact h
  | v c =>
    obtain ⟨d, k⟩ := c
    cases (of_decide_eq_true hf : k = 0)
    cases (show Ow K H w (.tm n) 0 d v from h) with
    | fz q => exact .fz q
theorem SrcsAt.get {K : PySem.W.Frag} {H : Hp} {w : OM} {σ : L2.St} : ∀ {ss : List Src} {vs : List V} {n i : Nat}, SrcsAt K H w σ n ss vs → (ss[i]? = none ∧ vs[i]? = none) ∨ ∃ s v, ss[i]? = some s ∧ vs[i]? = some v ∧ SrcAt K H w σ (n + i) s v
  | [], [], _, _, _ => .inl ⟨rfl, rfl⟩
  | [], _ :: _, _, _, h => h.elim
  | _ :: _, [], _, _, h => h.elim
  | s :: ss, v :: vs, n, 0, ⟨h, t⟩ => .inr ⟨s, v, rfl, rfl, h⟩
  | s :: ss, v :: vs, n, i + 1, ⟨h, t⟩ => by
    rcases SrcsAt.get (i := i) t with ⟨e1, e2⟩ | ⟨s', v', e1, e2, q⟩
    · exact .inl ⟨by simpa using e1, by simpa using e2⟩
    · exact .inr ⟨s', v', by simpa using e1, by simpa using e2, by rw [show n + (i + 1) = n + 1 + i by omega]; exact q⟩
theorem SrcsAt.reord {K : PySem.W.Frag} {H : Hp} {w : OM} {σ : L2.St} {ss : List Src} {vs : List V} {n : Nat} (h : SrcsAt K H w σ n ss vs) (hf : ss.all Src.free = true) : ∀ {perm : List Nat} {m : Nat}, SrcsAt K H w σ m (Z.reord perm ss) (Z.reord perm vs)
  | [], _ => trivial
  | i :: r, m => by
    have ih := fun m => SrcsAt.reord h hf (perm := r) (m := m)
    unfold Z.reord at ih ⊢
    rcases h.get (i := i) with ⟨e1, e2⟩ | ⟨s, v, e1, e2, q⟩
    · rw [List.filterMap_cons_none e1, List.filterMap_cons_none e2]; exact ih m
    · rw [List.filterMap_cons_some e1, List.filterMap_cons_some e2]
      exact ⟨q.any (List.all_eq_true.mp hf s (List.mem_of_getElem? e1)), ih (m + 1)⟩
def mCallKw (f : FD) (perm : List Nat) (np : Nat) (ms : List AE) : AE := fun ρ => do
  let (ss, ρ1) ← evs ms ρ
  let cs ← args ρ1 (reord perm ss)
  if ss.all Src.free && decide ((reord perm ss).length = np) && dupF (ioSlots ρ1 (reord perm ss)) then do
    let (r, fs) ← f cs
    R.ok (.v r, back ρ1 (reord perm ss) fs ρ1)
  else R.bad
/-- f(k = e, ..) -/
theorem sa_callKw {X : Cx} {x : Str} {p pos : Pos} {kws : List Keyword} {ms : List AE} {f : FD} {fa : Addr} {fd : FuncData} {ps ks : List Str} {perm : List Nat} {k np nk : Nat} (F : FnOk X.prog X.w X.K X.mg X.base CX0 k fa fd ps (spD X.K np f)) (hr : Room k X.A) (hm : X.mg x = some (.ref fa)) (hk : PySem.W.keepIn X.K (.ref fa) = true) (hb : KBinds X.K fd ps ks (kwV perm nk) (kwV perm nk))
    (ha : SKs X kws ms) (hnk : ms.length = nk := by rfl) (hg : Gl X x := by rfl) (hdb : (x == ("__debug__" : Str)) = false := by decide) (hall : (backToKw pos (keywordEach kws X.env)).all (·.1.isSome) = true := by rfl) (hks : (backToKw pos (keywordEach kws X.env)).filterMap (·.1) = ks := by rfl)
    (hpl : ((backTo pos (starEach [] X.env)).any (·.1) || (backToKw pos (keywordEach kws X.env)).any (·.1.isNone)) = false := by rfl) : SA X (.Call (.Name x p) [] kws pos) (mCallKw f perm np ms) := by
  obtain ⟨t, q, g⟩ := ha.ex
  refine ⟨_, pe_callK0 F hr hg hm hk hb pass0 q hall hks hdb hpl, fun n σ H w ρ s ρ' Q ok hm k => ?_⟩
  obtain ⟨⟨ss, ρ1⟩, e1, hm⟩ := R.of_bind hm
  obtain ⟨cs, e2, hm⟩ := R.of_bind hm
  dsimp only at hm e2
  split at hm
  · rename_i hc
    obtain ⟨⟨r, fs⟩, e3, hm⟩ := R.of_bind hm
    cases hm
    simp only [Bool.and_eq_true, decide_eq_true_eq] at hc
    obtain ⟨⟨hc1, hc2⟩, hc3⟩ := hc
    refine g n σ H w ρ ss ρ1 _ ok e1 fun vs H1 w1 ok1 st1 sa => ?_
    have hv : kwV perm nk [] vs = reord perm vs := by
      unfold kwV
      rw [← sa.length, evs_length e1, hnk]
      simp
    rw [hv]
    exact call_sem ok1 (sa.reord hc1) e2 hc3 e3 hc2 fun v H' w' ok' st' ow => k v H' w' ok' (st1.trans st') ow
  · cases hm
@[simp] theorem mCallKw_ap {f : FD} {perm : List Nat} {np : Nat} {ms : List AE} {ρ : Env} : mCallKw f perm np ms ρ = (do
  let (ss, ρ1) ← evs ms ρ
  let cs ← args ρ1 (reord perm ss)
  if ss.all Src.free && decide ((reord perm ss).length = np) && dupF (ioSlots ρ1 (reord perm ss)) then do
    let (r, fs) ← f cs
    R.ok (.v r, back ρ1 (reord perm ss) fs ρ1)
  else R.bad) := rfl
end Z

/-! Z: equality, membership, numbers: what many laws need. -/
namespace Z
open PySem PySem.Spec PyProof.Rows L2
theorem eqvAll_self : ∀ {l : List D}, (∀ d ∈ l, d.eqv d = true) → PyData.eqvAll (D.pyL l) (D.pyL l) = true
  | [], _ => rfl
  | d :: r, h => by
    unfold D.pyL PyData.eqvAll
    rw [Bool.and_eq_true]
    exact ⟨h d (List.mem_cons_self ..), eqvAll_self fun x hx => h x (List.mem_cons_of_mem _ hx)⟩
theorem eqv_self : ∀ (n : Nat) (d : D), d.okd n = true → d.eqv d = true
  | n, .non, _ => rfl
  | n, .bl b, _ => by show (b == b) = true; simp
  | n, .int i, _ => by show (i == i) = true; simp
  | n, .str x, _ => by show (x == x) = true; simp
  | 0, .tup l, h => by cases h
  | 0, .lst l, h => by cases h
  | 0, .scr l, h => by cases h
  | 0, .dct _ _, h => by cases h
  | n + 1, .tup l, h => by
    show PyData.eqvAll (D.pyL l) (D.pyL l) = true
    exact eqvAll_self fun d hd => eqv_self n d (List.all_eq_true.mp h d hd)
  | n + 1, .lst l, h => by
    show PyData.eqvAll (D.pyL l) (D.pyL l) = true
    exact eqvAll_self fun d hd => eqv_self n d (List.all_eq_true.mp h d hd)
  | n + 1, .scr l, h => by
    show PyData.eqvAll (D.pyL l) (D.pyL l) = true
    exact eqvAll_self fun d hd => eqv_self n d (List.all_eq_true.mp h d hd)
  | n + 1, .dct _ _, h => by cases h
theorem f_eqSelf {d : D} {k k' : Nat} (h : d.okd 60 = true) : fEq [⟨d, k⟩, ⟨d, k'⟩] = .ok ⟨.bl true, 0⟩ := by
  unfold fEq
  simp only [h, Bool.and_true, if_true, eqv_self 60 d h]
  rfl
theorem f_neSelf {d : D} {k k' : Nat} (h : d.okd 60 = true) : fNe [⟨d, k⟩, ⟨d, k'⟩] = .ok ⟨.bl false, 0⟩ := by
  unfold fNe
  simp only [h, Bool.and_true, if_true, eqv_self 60 d h]
  rfl
/-- numbers of things -/
def nL (ps : List Nat) : List D := ps.map fun (i : Nat) => D.int (i : Int)
def nD (ps : List Nat) : D := .tup (nL ps)
def iL (is : List Int) : List D := is.map D.int
def iD (is : List Int) : D := .tup (iL is)
theorem nL_iL (ps : List Nat) : nL ps = iL (ps.map fun (i : Nat) => (i : Int)) := by unfold nL iL; rw [List.map_map]; rfl
theorem okd_iL {is : List Int} : (iL is).all (D.okd 59) = true := by
  unfold iL
  rw [List.all_map, List.all_eq_true]
  intro i _
  rfl
theorem okd_iD {is : List Int} : (iD is).okd 60 = true := okd_iL
theorem okd_nD {ps : List Nat} : (nD ps).okd 60 = true := by unfold nD; rw [nL_iL]; exact okd_iL
theorem any_iL {is : List Int} {i : Int} : ((iL is).any fun z => z.eqv (.int i)) = decide (i ∈ is) := by
  unfold iL
  induction is with
  | nil => simp
  | cons a r ih =>
    rw [List.map_cons, List.any_cons, ih]
    show ((a == i) || _) = _
    by_cases h : a = i
    · simp [h]
    · have : ¬ i = a := fun e => h e.symm
      simp [h, this]
theorem in_iD {is : List Int} {i : Int} {k k' : Nat} : fIn false [⟨.int i, k⟩, ⟨iD is, k'⟩] = .ok ⟨.bl (decide (i ∈ is)), 0⟩ := by
  unfold fIn inB iD
  have h1 : (D.int i).okd 60 = true := rfl
  have h2 : (D.tup (iL is)).okd 60 = true := okd_iL
  simp only [h1, h2, Bool.and_true, if_true, R.ok_bind, any_iL, Bool.false_bne]
  simp
theorem notIn_iD {is : List Int} {i : Int} {k k' : Nat} : fIn true [⟨.int i, k⟩, ⟨iD is, k'⟩] = .ok ⟨.bl (decide (i ∉ is)), 0⟩ := by
  unfold fIn inB iD
  have h1 : (D.int i).okd 60 = true := rfl
  have h2 : (D.tup (iL is)).okd 60 = true := okd_iL
  simp only [h1, h2, Bool.and_true, if_true, R.ok_bind, any_iL]
  simp
theorem in_nD {ps : List Nat} {i k k' : Nat} : fIn false [⟨.int (i : Int), k⟩, ⟨nD ps, k'⟩] = .ok ⟨.bl (decide (i ∈ ps)), 0⟩ := by
  have : nD ps = iD (ps.map fun (i : Nat) => (i : Int)) := by unfold nD iD; rw [nL_iL]
  rw [this, in_iD]
  have e : ((i : Int) ∈ ps.map fun (i : Nat) => (i : Int)) ↔ i ∈ ps := by
    rw [List.mem_map]
    exact ⟨fun ⟨a, ha, h⟩ => by rw [← Int.ofNat_inj.mp h]; exact ha, fun h => ⟨i, h, rfl⟩⟩
  simp only [e]
theorem notIn_nD {ps : List Nat} {i k k' : Nat} : fIn true [⟨.int (i : Int), k⟩, ⟨nD ps, k'⟩] = .ok ⟨.bl (decide (i ∉ ps)), 0⟩ := by
  have : nD ps = iD (ps.map fun (i : Nat) => (i : Int)) := by unfold nD iD; rw [nL_iL]
  rw [this, notIn_iD]
  have e : ((i : Int) ∈ ps.map fun (i : Nat) => (i : Int)) ↔ i ∈ ps := by
    rw [List.mem_map]
    exact ⟨fun ⟨a, ha, h⟩ => by rw [← Int.ofNat_inj.mp h]; exact ha, fun h => ⟨i, h, rfl⟩⟩
  simp only [e]
theorem rgD_nL {n : Nat} : rgD 0 (n : Int) = nL (List.range n) := rgD_nat
theorem ix_iD {is : List Int} {p k k' : Nat} (h : p < is.length) : fIx [⟨iD is, k⟩, ⟨.int (p : Int), k'⟩] = .ok ⟨.int (is.getD p 0), 0⟩ := by
  have h' : p < (iL is).length := by unfold iL; simpa using h
  refine p_ixT ((atI_nat h').trans ?_)
  have e : (iL is)[p] = .int is[p] := by simp only [iL, List.getElem_map]
  rw [e]
  simp [List.getElem?_eq_getElem h]
/-! ### more of the laws' own small defs -/
def m_is_int : MS := (mSeq (mRet (mAndV (mPrim (fIsi "int") [(aVar 0)]) (mNotV (mPrim (fIsi "bool") [(aVar 0)])))) mNext)
def c_is_int : FD := runDef 1 m_is_int
def m_is_ints : MS := (mSeq (mRet (mAndV (mPrim (fIsi "tuple") [(aVar 0)]) (mPrim fAll [(mComp (mItems (aVar 0)) (gN 1) mYes (mCall c_is_int [(aVar 1)]) [1])]))) mNext)
def c_is_ints : FD := runDef 2 m_is_ints
@[simp] theorem isi_int_int {x : Int} {k : Nat} : fIsi "int" [⟨.int x, k⟩] = .ok ⟨.bl true, 0⟩ := by unfold fIsi; simp [isT]
@[simp] theorem isi_bool_int {x : Int} {k : Nat} : fIsi "bool" [⟨.int x, k⟩] = .ok ⟨.bl false, 0⟩ := by unfold fIsi; simp [isT]
@[simp] theorem isi_tup_tup {x : List D} {k : Nat} : fIsi "tuple" [⟨.tup x, k⟩] = .ok ⟨.bl true, 0⟩ := by unfold fIsi; simp [isT]
theorem is_int_ok {i : Int} : c_is_int [⟨.int i, 0⟩] = .ok (⟨.bl true, 0⟩, [⟨.int i, 0⟩]) := by
  simp -implicitDefEqProofs [c_is_int, m_is_int, runDef_ap, aVar_ap]
theorem is_ints_ok {is : List Int} (hl : is.length ≤ 5000) : c_is_ints [⟨iD is, 0⟩] = .ok (⟨.bl true, 0⟩, [⟨iD is, 0⟩]) := by
  have e := comp_map (g := gN 1) (me := mCall c_is_int [aVar 1]) (vs := [1]) (ρ0 := [some ⟨iD is, 0⟩, none]) (it := ⟨iL is, none⟩) (f := fun _ => .bl true) rfl (ds := iL is) (fun d hd => by
    obtain ⟨i, hi, rfl⟩ := List.mem_map.mp hd
    refine ⟨[some ⟨iD is, 0⟩, some ⟨.int i, 0⟩], .v ⟨.bl true, 0⟩, [some ⟨iD is, 0⟩, some ⟨.int i, 0⟩], [some ⟨iD is, 0⟩, some ⟨.int i, 0⟩], 0, ?_, ?_, rfl, ?_⟩
    · simp [wipeE]
    · simp -implicitDefEqProofs [aVar_ap, is_int_ok]
    · simp [wipeE])
  have ea : fAll [⟨.lst ((iL is).map fun _ => D.bl true), 1⟩] = .ok ⟨.bl true, 0⟩ := by
    have : ∀ l : List D, asBls (l.map fun _ => D.bl true) = some (l.map fun _ => true) := fun l => by
      induction l with
      | nil => rfl
      | cons a r ih => rw [List.map_cons, asBls, ih]; rfl
    unfold fAll onBls
    simp only [this]
    simp
  have hl2 : (iL is).length ≤ 16777216 := by unfold iL; simp; omega
  unfold iD at *
  simp [wipeE] at e
  simp -implicitDefEqProofs [c_is_ints, m_is_ints, runDef_ap, aVar_ap, itemsOf, ownOk, chkOk, hl2, wipeE, e, restore, ea]
end Z

/-! Z: sorted(..) of ints and of pairs of ints. -/
namespace Z
open PySem PySem.Spec PyProof.Rows L2
/-- the values and their pairs -/
def PairsAt (K : PySem.W.Frag) (H : Hp) : List V → List (Int × Int) → Prop
  | [], [] => True
  | x :: xs, p :: ps => (∃ t, x = .ref t ∧ SqT K H t [.int p.1, .int p.2]) ∧ PairsAt K H xs ps
  | _, _ => False
def rSortedPF (K : PySem.W.Frag) : List V → Hp → VK → Prop := fun vs H Q => ∃ (a : Addr) (xs : List V) (ps : List (Int × Int)), vs = [V.ref a] ∧ SqL K H a xs ∧ PairsAt K H xs ps ∧
  ∀ (zs : List (V × (Int × Int))) (p : Addr), zs.Perm (xs.zip ps) → zs.Pairwise (fun y z => SrtO.lexB z.2 y.2 = false) → H p = none → Q (.ref p) (upd H p (.lst (zs.map (·.1))))
/-- the two ints of a tuple in the heap -/
def pairOf (h : Heap) (v : Value) : Int × Int := ((TS.intsOf h v).getD 0 0, (TS.intsOf h v).getD 1 0)
def fwV : V → Value
  | .ref a => .ref a
  | _ => .none
theorem pairs_zip {X : Cx} {pins : List (Addr × Obj)} {σ : L2.St} {H : Hp} {s : Shared} (I : Inv X pins σ H s) : ∀ {xs : List V} {ps : List (Int × Int)}, PairsAt X.K H xs ps → (∀ x ∈ xs, ∃ t, x = V.ref t ∧ Srt.IsPair s.heap (Value.ref t) (pairOf s.heap (Value.ref t)).1 (pairOf s.heap (Value.ref t)).2) ∧ (xs.zip ps = xs.map fun x => (x, pairOf s.heap (fwV x))) ∧ ps.length = xs.length
  | [], [], _ => ⟨fun _ h => by simp at h, rfl, rfl⟩
  | [], _ :: _, h => h.elim
  | _ :: _, [], h => h.elim
  | x :: xs, p :: ps, ⟨⟨t, e, ht⟩, hr⟩ => by
    obtain ⟨h1, h2, h3⟩ := pairs_zip I hr
    subst e
    have hi : TS.intsOf s.heap (.ref t) = [p.1, p.2] := (tupI_raw (ns := [p.1, p.2]) I ht).ints
    have hp : pairOf s.heap (.ref t) = p := by unfold pairOf; rw [hi]; rfl
    refine ⟨fun y hy => ?_, ?_, by simp [h3]⟩
    · rcases List.mem_cons.mp hy with rfl | hy
      · refine ⟨t, rfl, ?_⟩
        rw [hp]
        obtain ⟨its, rv, hT, _⟩ := I.tuple ht
        obtain ⟨u1, u2, rfl, ri, rj⟩ := vals2 rv
        obtain ⟨t1, rfl⟩ := ri
        obtain ⟨t2, rfl⟩ := rj
        obtain ⟨o, ho, hc, n, hd⟩ := hT
        exact ⟨t, o, t1, t2, n, rfl, ho, hc, hd⟩
      · exact h1 y hy
    · rw [List.zip_cons_cons, h2, List.map_cons]
      have : fwV (V.ref t) = Value.ref t := rfl
      rw [this, hp]
theorem cr_sortedPF {X : Cx} : CallR X (.builtin "sorted") (rSortedPF X.K) := by
  intro pins s σ H vs us Q I r h
  obtain ⟨a, xs, ps, rfl, hs, hx, q⟩ := h
  obtain ⟨its, rv, hl, hz⟩ := I.list hs
  obtain ⟨u, rfl, ru⟩ := vals1 r
  obtain rfl : u = Value.ref a := ru
  obtain ⟨hp, hzip, hlen⟩ := pairs_zip I hx
  obtain ⟨e1, e2⟩ := refs_back rv fun x m => by
    obtain ⟨t, e, _⟩ := hp x m
    exact ⟨t, e⟩
  have kf : ∀ u ∈ its, fwV (backV u) = u := fun u hu => by
    obtain ⟨t, rfl⟩ := e2 u hu
    rfl
  refine SrtO.sorted_pairsO (k := pairOf s.heap) hl.isList (by rw [← rv.length]; exact hz) (fun v hv => ?_) fun h' d out h1 h2 kp hd hn => ?_
  · obtain ⟨t, rfl⟩ := e2 v hv
    have hm : V.ref t ∈ xs := by rw [e1]; exact List.mem_map.mpr ⟨_, hv, rfl⟩
    obtain ⟨t', e, ht⟩ := hp _ hm
    cases e
    exact ht
  · have h3 : ∀ u ∈ out, ∃ a, u = Value.ref a := fun u hu => e2 u (h2.perm.mem_iff.mp hu)
    obtain ⟨n, hn⟩ := hn
    have hperm : (out.map backV).Perm xs := by rw [e1]; exact h2.perm.map backV
    have hq := q (out.map fun u => (backV u, pairOf s.heap u)) d (by
      rw [hzip, e1, List.map_map]
      have : its.map ((fun x => (x, pairOf s.heap (fwV x))) ∘ backV) = its.map fun u => (backV u, pairOf s.heap u) := List.map_congr_left fun u hu => by
        show (backV u, pairOf s.heap (fwV (backV u))) = _
        rw [kf u hu]
      rw [this]
      exact h2.perm.map _) (by
      rw [List.pairwise_map]
      exact List.Pairwise.imp (fun h => h) h1) (I.hok.fresh hd)
    rw [List.map_map] at hq
    refine ⟨.ref d, upd H d (.lst (out.map backV)), I.laid (t' := s.toks) kp hd ⟨?_, out, n, vals_back h3, hn⟩, rfl, hq⟩
    rw [hperm.length_eq]
    exact hz
def isort (ns : List Int) : List Int := ns.mergeSort fun a b => decide (a ≤ b)
theorem isort_perm {ns : List Int} : (isort ns).Perm ns := List.mergeSort_perm ..
theorem isort_sorted {ns : List Int} : (isort ns).Pairwise (· ≤ ·) := by
  have h := List.pairwise_mergeSort (le := fun a b : Int => decide (a ≤ b)) (fun a b c h1 h2 => by simp at *; omega) (fun a b => by simp; omega) ns
  exact h.imp fun h => by simpa using h
theorem isort_uniq {ns ms : List Int} (hp : ms.Perm ns) (hs : ms.Pairwise (· ≤ ·)) : ms = isort ns :=
  List.Perm.eq_of_pairwise (le := (· ≤ ·)) (fun a b _ _ h1 h2 => Int.le_antisymm h1 h2) hs isort_sorted (hp.trans isort_perm.symm)
def pLe (p q : Int × Int) : Bool := !SrtO.lexB q p
theorem pLe_iff {p q : Int × Int} : pLe p q = true ↔ p.1 < q.1 ∨ (p.1 = q.1 ∧ p.2 ≤ q.2) := by
  unfold pLe
  rw [Bool.not_eq_true', SrtO.lexB_no]
  omega
def psort (ps : List (Int × Int)) : List (Int × Int) := ps.mergeSort pLe
theorem psort_perm {ps : List (Int × Int)} : (psort ps).Perm ps := List.mergeSort_perm ..
theorem psort_sorted {ps : List (Int × Int)} : (psort ps).Pairwise fun p q => pLe p q = true :=
  List.pairwise_mergeSort (fun a b c h1 h2 => by rw [pLe_iff] at *; omega) (fun a b => by rw [Bool.or_eq_true, pLe_iff, pLe_iff]; omega) ps
theorem psort_uniq {ns ms : List (Int × Int)} (hp : ms.Perm ns) (hs : ms.Pairwise fun p q => pLe p q = true) : ms = psort ns :=
  List.Perm.eq_of_pairwise (le := fun p q => pLe p q = true) (fun a b _ _ h1 h2 => by
    rw [pLe_iff] at h1 h2
    exact Prod.ext (by omega) (by omega)) hs psort_sorted (hp.trans psort_perm.symm)
def pairD (p : Int × Int) : D := .tup [.int p.1, .int p.2]
def asPairs : List D → Option (List (Int × Int))
  | [] => some []
  | .tup [.int i, .int j] :: r => match asPairs r with
    | some ps => some ((i, j) :: ps)
    | none => none
  | _ :: _ => none
theorem asPairs_map : ∀ ps : List (Int × Int), asPairs (ps.map pairD) = some ps
  | [] => rfl
  | p :: r => by
    show (match asPairs (r.map pairD) with | some ps => some ((p.1, p.2) :: ps) | none => none) = _
    rw [asPairs_map r]
theorem asPairs_eq : ∀ {l : List D} {ps : List (Int × Int)}, asPairs l = some ps → l = ps.map pairD
  | [], ps, h => by cases h; rfl
  | d :: r, ps, h => by
    unfold asPairs at h
    split at h
    · rename_i heq
      exact absurd heq (by simp)
    · rename_i i j r' heq
      cases heq
      split at h
      · rename_i ps' hps
        cases h
        rw [asPairs_eq hps]
        rfl
      · cases h
    · cases h
def fSort : List Cell → R Cell
  | [⟨.lst l, k⟩] => if k ≤ 1 then match asInts l with
      | some ns => .ok ⟨.lst ((isort ns).map D.int), 1⟩
      | none => match asPairs l with
        | some ps => .ok ⟨.lst ((psort ps).map pairD), 1⟩
        | none => .bad
    else .bad
  | _ => .bad
theorem pairs_at {K : PySem.W.Frag} {H : Hp} {w : OM} : ∀ {ps : List (Int × Int)} {xs : List V}, FzL K H w (ps.map pairD) xs → PairsAt K H xs ps
  | [], [], _ => trivial
  | [], _ :: _, h => by cases h
  | p :: ps, [], h => by cases h
  | p :: ps, x :: xs, .cons h t => by
    refine ⟨?_, pairs_at t⟩
    cases h with
    | tup ta fa =>
      have : _ = [p.1, p.2].map V.int := FzL.ints (ns := [p.1, p.2]) fa
      subst this
      exact ⟨_, rfl, ta.sq⟩
theorem fz_zip {K : PySem.W.Frag} {H : Hp} {w : OM} : ∀ {ps : List (Int × Int)} {xs : List V}, FzL K H w (ps.map pairD) xs → ∀ z ∈ xs.zip ps, Fz K H w (pairD z.2) z.1
  | [], [], _, z, hz => by simp at hz
  | [], _ :: _, h, _, _ => by cases h
  | p :: ps, [], h, _, _ => by cases h
  | p :: ps, x :: xs, .cons h t, z, hz => by
    rw [List.zip_cons_cons, List.mem_cons] at hz
    rcases hz with rfl | hz
    · exact h
    · exact fz_zip t z hz
theorem fz_of {K : PySem.W.Frag} {H : Hp} {w : OM} : ∀ {zs : List (V × (Int × Int))}, (∀ z ∈ zs, Fz K H w (pairD z.2) z.1) → FzL K H w ((zs.map (·.2)).map pairD) (zs.map (·.1))
  | [], _ => .nil
  | z :: zs, h => .cons (h z (List.mem_cons_self ..)) (fz_of fun y hy => h y (List.mem_cons_of_mem _ hy))
theorem fzl_len {K : PySem.W.Frag} {H : Hp} {w : OM} {ps : List (Int × Int)} {xs : List V} (h : FzL K H w (ps.map pairD) xs) : ps.length = xs.length := by
  have := h.length
  simpa using this
section
variable {X : Cx}
theorem call_sortAll : CallR X (.builtin "sorted") (fun xs H Q => rSortedI X.K xs H Q ∨ rSortedPF X.K xs H Q) := cr_sortedI.or cr_sortedPF
theorem s_sort : CallS X (fun xs H Q => rSortedI X.K xs H Q ∨ rSortedPF X.K xs H Q) fSort := by
  intro n H w σ ρ cs vs c Q ok ow e k
  unfold fSort at e
  split at e
  · rename_i l kk
    split at e
    · rename_i hk
      split at e
      · rename_i ns hn
        cases e
        obtain ⟨v, o, rfl, h1⟩ := ow.one
        obtain ⟨a, xs, rfl, ta, la, fa⟩ := ow_lst h1
        have hl := asInts_eq hn
        subst hl
        have := (fa hk).ints
        subst this
        refine .inl ⟨a, ns, rfl, .inl (.inl ta), fun ns' p hp hs hq => ?_⟩
        have := isort_uniq hp hs
        subst this
        exact k _ _ (w.put p (.tm n)) (ok.new hq _) (Step.new hq) (.lst upd_same OM.put_same ((fz_ints _).step (Kp.new hq .no)))
      · split at e
        · rename_i ps hn
          cases e
          obtain ⟨v, o, rfl, h1⟩ := ow.one
          obtain ⟨a, xs, rfl, ta, la, fa⟩ := ow_lst h1
          have hl := asPairs_eq hn
          subst hl
          have ff := fa hk
          refine .inr ⟨a, xs, ps, rfl, .inl (.inl ta), pairs_at ff, fun zs p hp hs hq => ?_⟩
          have e2 : zs.map (·.2) = psort ps := by
            refine psort_uniq ?_ ?_
            · have := hp.map (·.2)
              rw [List.map_snd_zip (by rw [fzl_len ff]; exact Nat.le_refl _)] at this
              exact this
            · rw [List.pairwise_map]
              exact hs.imp fun h => by unfold pLe; rw [h]; rfl
          have f2 := fz_of (K := X.K) (H := H) (w := w) (zs := zs) fun z hz => fz_zip ff z (hp.mem_iff.mp hz)
          rw [e2] at f2
          exact k _ _ (w.put p (.tm n)) (ok.new hq _) (Step.new hq) (.lst upd_same OM.put_same (f2.step (Kp.new hq .no)))
        · cases e
    · cases e
  · cases e
end
end Z

namespace P_k21
open Z PySem PySem.Spec PyProof.Rows
def m_same_price : MS := (mSeq (mSet 3 (mLst [])) (mSeq (mFor (mRange1 (aVar 0)) (gN 4) (mSeq (mIf (mTest (mPrim (fIn false) [(aVar 4), (aVar 1)])) (mSeq (mExpr (mMeth 3 fAppend [(aVar 2)])) mNext) (mSeq (mExpr (mMeth 3 fAppend [(aC (.int 0))])) mNext)) mNext)) (mSeq (mRet (mPrim fTuple [(aVar 3)])) mNext)))
def c_same_price : FD := runDef 5 m_same_price
def m_is_higher : MS := (mSeq (mIf (mTest (mPrim fNe [(mPrim fIx [(aVar 0), (aVar 1)]), (mPrim fIx [(aVar 0), (aVar 2)])])) (mSeq (mRet (mPrim fGt [(mPrim fIx [(aVar 0), (aVar 1)]), (mPrim fIx [(aVar 0), (aVar 2)])])) mNext) mNext) (mSeq (mRet (mPrim fLt [(aVar 1), (aVar 2)])) mNext))
def c_is_higher : FD := runDef 3 m_is_higher
def m_takers_of : MS := (mSeq (mSet 3 (aVar 0)) (mSeq (mSet 4 (mLst [])) (mSeq (mFor (mRange1 (mPrim fLen [(aVar 2)])) (gN 5) (mSeq (mIf (mAndT (mTest (mPrim fGt [(aVar 3), (aC (.int 0))])) (mTest (mPrim fGe [(mPrim fIx [(aVar 2), (aVar 5)]), (mPrim fIx [(aVar 1), (aVar 5)])]))) (mSeq (mExpr (mMeth 4 fAppend [(aVar 5)])) (mSeq (mSet 3 (mPrim fSub [(aVar 3), (aC (.int 1))])) mNext)) mNext) mNext)) (mSeq (mRet (mPrim fTuple [(aVar 4)])) mNext))))
def c_takers_of : FD := runDef 6 m_takers_of
def m__law_begin : MS := (mSeq (mRet (mLst [(mComp (mItems (aVar 0)) (gN 1) mYes (mPrim fInt [(aVar 1)]) [1]), (aC (.int 0)), (aC (.int 0)), (aC (.int 7))])) mNext)
def c__law_begin : FD := runDef 2 m__law_begin
def m__law_draw : MS := (mSeq (mIf (mTest (mPrim fGt [(mPrim fIx [(aVar 0), (aC (.int 2))]), (aC (.int 0))])) (mSeq (mSet 2 (mPrim fIx [(aVar 0), (aC (.int 2))])) (mSeq (mSetIx 0 (aC (.int 2)) (mPrim fDiv [(aVar 2), (aVar 1)])) (mSeq (mRet (mPrim fMod [(mPrim fInt [(aVar 2)]), (aVar 1)])) mNext))) mNext) (mSeq (mSet 3 (aC (.int 0))) (mSeq (mIf (mTest (mPrim fLt [(mPrim fIx [(aVar 0), (aC (.int 1))]), (mPrim fLen [(mPrim fIx [(aVar 0), (aC (.int 0))])])])) (mSeq (mSet 4 (mPrim fIx [(mPrim fIx [(aVar 0), (aC (.int 0))]), (mPrim fIx [(aVar 0), (aC (.int 1))])])) (mSeq (mSet 3 (mPrim fAdd [(mPrim fMul [(aC (.int 2)), (mPrim fAbs [(aVar 4)])]), (mPrim fInt [(mPrim fLt [(aVar 4), (aC (.int 0))])])])) mNext)) mNext) (mSeq (mAugIx 0 (aC (.int 1)) fIAdd (aC (.int 1))) (mSeq (mIf (mTest (mPrim fGe [(aVar 3), (mPrim fMul [(aC (.int 2)), (mPrim fPow [(aC (.int 10)), (aC (.int 18))])])])) (mSeq (mSet 2 (mPrim fMod [(mPrim fInt [(mPrim fDiv [(aVar 3), (aC (.int 2))])]), (mPrim fShl [(aC (.int 1)), (aC (.int 6000))])])) (mSeq (mSetIx 0 (aC (.int 2)) (mPrim fDiv [(aVar 2), (aVar 1)])) (mSeq (mRet (mPrim fMod [(mPrim fInt [(aVar 2)]), (aVar 1)])) mNext))) mNext) (mSeq (mSetIx 0 (aC (.int 3)) (mPrim fMod [(mPrim fInt [(mPrim fAdd [(mPrim fAdd [(mPrim fAdd [(mPrim fMul [(mPrim fIx [(aVar 0), (aC (.int 3))]), (aC (.int 48271))]), (mPrim fMul [(mPrim fMod [(mPrim fInt [(aVar 3)]), (aC (.int 2147483629))]), (aC (.int 16807))])]), (mPrim fMul [(mPrim fIx [(aVar 0), (aC (.int 1))]), (aC (.int 69621))])]), (aC (.int 11))])]), (aC (.int 2147483647))])) (mSeq (mRet (mPrim fMod [(mPrim fInt [(mPrim fDiv [(mPrim fIx [(aVar 0), (aC (.int 3))]), (aC (.int 16))])]), (aVar 1)])) mNext)))))))
def c__law_draw : FD := runDef 5 m__law_draw
def m__law_is_int : MS := (mSeq (mRet (mAndV (mPrim (fIsi "int") [(aVar 0)]) (mNotV (mPrim (fIsi "bool") [(aVar 0)])))) mNext)
def c__law_is_int : FD := runDef 1 m__law_is_int
def m__law_is_pair : MS := (mSeq (mRet (mAndV (mPrim (fIsi "tuple") [(aVar 0)]) (mPrim fEq [(mPrim fLen [(aVar 0)]), (aC (.int 2))]))) mNext)
def c__law_is_pair : FD := runDef 1 m__law_is_pair
def m__law_clip : MS := (mSeq (mRet (mPrim fMax [(aC (.int 0)), (mPrim fMin [(aC (.int 1000000)), (aVar 0)])])) mNext)
def c__law_clip : FD := runDef 1 m__law_clip
def m__law_sale : MS := (mSeq (mSet 2 (mPrim fSort [(mComp (mRange1 (mPrim fLen [(aVar 1)])) (gN 3) mYes (mTup [(mPrim fSub [(aC (.int 0)), (mPrim fIx [(aVar 1), (aVar 3)])]), (aVar 3)]) [3])])) (mSeq (mSet 4 (mPrim fSort [(mComp (mItems (mSl (aVar 2) none (some (aVar 0)))) (gN 5) mYes (mPrim fIx [(aVar 5), (aC (.int 1))]) [5])])) (mSeq (mSet 6 (aC (.int 0))) (mSeq (mIf (mTest (mPrim fGt [(mPrim fLen [(aVar 2)]), (aVar 0)])) (mSeq (mSet 6 (mPrim fSub [(aC (.int 0)), (mPrim fIx [(mPrim fIx [(aVar 2), (aVar 0)]), (aC (.int 0))])])) mNext) mNext) (mSeq (mRet (mTup [(mPrim fTuple [(aVar 4)]), (mPrim fTuple [(mComp (mRange1 (mPrim fLen [(aVar 1)])) (gN 3) mYes (mPrim fMul [(aVar 6), (mPrim fInt [(mPrim (fIn false) [(aVar 3), (aVar 4)])])]) [3])])])) mNext)))))
def c__law_sale : FD := runDef 7 m__law_sale
def m__law_posted : MS := (mSeq (mSet 3 (mComp (mRange1 (mPrim fLen [(aVar 2)])) (gN 4) (mTest (mPrim fGe [(mPrim fIx [(aVar 2), (aVar 4)]), (mPrim fIx [(aVar 1), (aVar 4)])])) (aVar 4) [4])) (mSeq (mSet 5 (mSl (aVar 3) none (some (aVar 0)))) (mSeq (mRet (mTup [(mPrim fTuple [(aVar 5)]), (mPrim fTuple [(mComp (mRange1 (mPrim fLen [(aVar 2)])) (gN 4) mYes (mPrim fMul [(mPrim fIx [(aVar 1), (aVar 4)]), (mPrim fInt [(mPrim (fIn false) [(aVar 4), (aVar 5)])])]) [4])])])) mNext)))
def c__law_posted : FD := runDef 6 m__law_posted
def m__law_edge : MS := (mSeq (mSet 3 (mPrim fSort [(mComp (mRange1 (mPrim fLen [(aVar 1)])) (gN 4) (mTest (mPrim fNe [(aVar 4), (aVar 2)])) (mPrim fSub [(aC (.int 0)), (mPrim fIx [(aVar 1), (aVar 4)])]) [4])])) (mSeq (mIf (mTest (mPrim fLt [(mPrim fLen [(aVar 3)]), (aVar 0)])) (mSeq (mRet (aC (.int 0))) mNext) mNext) (mSeq (mRet (mPrim fSub [(aC (.int 0)), (mPrim fIx [(aVar 3), (mPrim fSub [(aVar 0), (aC (.int 1))])])])) mNext)))
def c__law_edge : FD := runDef 5 m__law_edge
def m_place_of : MS := (mSeq (mSet 2 (aC (.int 0))) (mSeq (mFor (mRange1 (mPrim fLen [(aVar 0)])) (gN 3) (mSeq (mIf (mAndT (mTest (mPrim fNe [(aVar 3), (aVar 1)])) (mTest (mCall c_is_higher [(aVar 0), (aVar 3), (aVar 1)]))) (mSeq (mSet 2 (mPrim fAdd [(aVar 2), (aC (.int 1))])) mNext) mNext) mNext)) (mSeq (mRet (aVar 2)) mNext)))
def c_place_of : FD := runDef 4 m_place_of
def m_posted_of : MS := (mSeq (mSet 3 (mCall c_takers_of [(aVar 0), (aVar 1), (aVar 2)])) (mSeq (mSet 4 (mLst [])) (mSeq (mFor (mRange1 (mPrim fLen [(aVar 2)])) (gN 5) (mSeq (mIf (mTest (mPrim (fIn false) [(aVar 5), (aVar 3)])) (mSeq (mExpr (mMeth 4 fAppend [(mPrim fIx [(aVar 1), (aVar 5)])])) mNext) (mSeq (mExpr (mMeth 4 fAppend [(aC (.int 0))])) mNext)) mNext)) (mSeq (mRet (mTup [(aVar 3), (mPrim fTuple [(aVar 4)])])) mNext))))
def c_posted_of : FD := runDef 6 m_posted_of
def m__law_pick : MS := (mSeq (mRet (mPrim fIx [(aVar 1), (mCall c__law_draw [(aVar 0), (mPrim fLen [(aVar 1)])])])) mNext)
def c__law_pick : FD := runDef 2 m__law_pick
def m__law_is_ints : MS := (mSeq (mRet (mAndV (mPrim (fIsi "tuple") [(aVar 0)]) (mPrim fAll [(mComp (mItems (aVar 0)) (gN 1) mYes (mCall c__law_is_int [(aVar 1)]) [1])]))) mNext)
def c__law_is_ints : FD := runDef 2 m__law_is_ints
def m__law_with : MS := (mSeq (mRet (mPrim fAdd [(mPrim fAdd [(mSl (aVar 0) none (some (aVar 1))), (mTup [(mCall c__law_clip [(aVar 2)])])]), (mSl (aVar 0) (some (mPrim fAdd [(aVar 1), (aC (.int 1))])) none)])) mNext)
def c__law_with : FD := runDef 3 m__law_with
def m_winners_of : MS := (mSeq (mRet (mPrim fTuple [(mComp (mRange1 (mPrim fLen [(aVar 1)])) (gN 2) (mTest (mPrim fLt [(mCall c_place_of [(aVar 1), (aVar 2)]), (aVar 0)])) (aVar 2) [2])])) mNext)
def c_winners_of : FD := runDef 3 m_winners_of
def m__law_amount : MS := (mSeq (mSet 2 (mCall c__law_draw [(aVar 0), (aC (.int 6))])) (mSeq (mIf (mTest (mPrim fEq [(aVar 2), (aC (.int 1))])) (mSeq (mRet (mCall c__law_draw [(aVar 0), (aC (.int 1000001))])) mNext) mNext) (mSeq (mIf (mTest (mPrim fEq [(aVar 2), (aC (.int 2))])) (mSeq (mRet (mCall c__law_pick [(aVar 0), (mLst [(aC (.int 0)), (aC (.int 1)), (aC (.int 999999)), (aC (.int 1000000))])])) mNext) mNext) (mSeq (mIf (mAndT (mTest (mPrim fEq [(aVar 2), (aC (.int 3))])) (mTest (aVar 1))) (mSeq (mRet (mCall c__law_clip [(mPrim fSub [(mPrim fAdd [(mCall c__law_pick [(aVar 0), (aVar 1)]), (mCall c__law_draw [(aVar 0), (aC (.int 3))])]), (aC (.int 1))])])) mNext) mNext) (mSeq (mRet (mCall c__law_draw [(aVar 0), (aC (.int 3))])) mNext)))))
def c__law_amount : FD := runDef 3 m__law_amount
def m__law_is_due : MS := (mSeq (mIf (mOrT (mNotT (mTest (mCall c__law_is_pair [(aVar 0)]))) (mOrT (mNotT (mTest (mCall c__law_is_ints [(mPrim fIx [(aVar 0), (aC (.int 0))])]))) (mNotT (mTest (mCall c__law_is_ints [(mPrim fIx [(aVar 0), (aC (.int 1))])]))))) (mSeq (mRet (aC (.bl false))) mNext) mNext) (mSeq (mRet (mPrim fEq [(aVar 0), (aVar 1)])) mNext))
def c__law_is_due : FD := runDef 2 m__law_is_due
def m__law_looks : MS := (mSeq (mAsg (gT 3 (gsCons (gN 1) (gsCons (gN 2) (gsCons (gN 3) gsNil)))) (aVar 0)) (mSeq (mSet 4 (mComp (mRange2 (aC (.int 1)) (aC (.int 5))) (gN 5) mYes (mTup [(aVar 5), (aVar 2), (aVar 3)]) [5])) (mSeq (mFor (mRange1 (mPrim fLen [(aVar 2)])) (gN 6) (mSeq (mSet 7 (mCall c__law_edge [(aVar 1), (aVar 2), (aVar 6)])) (mSeq (mFor (mItems (mTup [(aC (.int 0)), (aC (.int 1000000)), (mPrim fSub [(aVar 7), (aC (.int 1))]), (aVar 7), (mPrim fAdd [(aVar 7), (aC (.int 1))])])) (gN 8) (mSeq (mExpr (mMeth 4 fAppend [(mTup [(aVar 1), (mCall c__law_with [(aVar 2), (aVar 6), (aVar 8)]), (aVar 3)])])) mNext)) (mSeq (mFor (mItems (mTup [(aC (.int 0)), (aC (.int 1000000)), (mPrim fSub [(mPrim fIx [(aVar 2), (aVar 6)]), (aC (.int 1))]), (mPrim fIx [(aVar 2), (aVar 6)]), (mPrim fAdd [(mPrim fIx [(aVar 2), (aVar 6)]), (aC (.int 1))])])) (gN 8) (mSeq (mExpr (mMeth 4 fAppend [(mTup [(aVar 1), (aVar 2), (mCall c__law_with [(aVar 3), (aVar 6), (aVar 8)])])])) mNext)) mNext)))) (mSeq (mRet (aVar 4)) mNext))))
def c__law_looks : FD := runDef 9 m__law_looks
def m_losers_of : MS := (mSeq (mSet 2 (mCall c_winners_of [(aVar 0), (aVar 1)])) (mSeq (mRet (mPrim fTuple [(mComp (mRange1 (mPrim fLen [(aVar 1)])) (gN 3) (mTest (mPrim (fIn true) [(aVar 3), (aVar 2)])) (aVar 3) [3])])) mNext))
def c_losers_of : FD := runDef 4 m_losers_of
def m__law_world : MS := (mSeq (mSet 1 (mPrim fAdd [(aC (.int 1)), (mCall c__law_draw [(aVar 0), (aC (.int 4))])])) (mSeq (mSet 2 (mPrim fAdd [(aC (.int 1)), (mCall c__law_draw [(aVar 0), (aC (.int 4))])])) (mSeq (mSet 3 (mLst [])) (mSeq (mFor (mRange1 (aVar 1)) (gN 4) (mSeq (mExpr (mMeth 3 fAppend [(mCall c__law_amount [(aVar 0), (aVar 3)])])) mNext)) (mSeq (mSet 5 (mLst [])) (mSeq (mFor (mRange1 (aVar 1)) (gN 4) (mSeq (mIf (mTest (mPrim fEq [(mCall c__law_draw [(aVar 0), (aC (.int 3))]), (aC (.int 1))])) (mSeq (mExpr (mMeth 5 fAppend [(mCall c__law_amount [(aVar 0), (aVar 3)])])) mNext) (mSeq (mExpr (mMeth 5 fAppend [(mCall c__law_clip [(mPrim fSub [(mPrim fAdd [(mPrim fIx [(aVar 3), (aVar 4)]), (mCall c__law_draw [(aVar 0), (aC (.int 3))])]), (aC (.int 1))])])])) mNext)) mNext)) (mSeq (mRet (mTup [(aVar 2), (mPrim fTuple [(aVar 3)]), (mPrim fTuple [(aVar 5)])])) mNext)))))))
def c__law_world : FD := runDef 6 m__law_world
def m__law_posted_right : MS := (mSeq (mIf (mTest (aVar 3)) (mSeq (mSet 4 (mCallKw c_posted_of [2, 1, 0] 3 [(aVar 2), (aVar 1), (aVar 0)])) mNext) (mSeq (mSet 4 (mCall c_posted_of [(aVar 0), (aVar 1), (aVar 2)])) mNext)) (mSeq (mRet (mCall c__law_is_due [(aVar 4), (mCall c__law_posted [(aVar 0), (aVar 1), (aVar 2)])])) mNext))
def c__law_posted_right : FD := runDef 5 m__law_posted_right
def m_sale_price : MS := (mSeq (mSet 2 (aC (.int 0))) (mSeq (mFor (mItems (mCall c_losers_of [(aVar 0), (aVar 1)])) (gN 3) (mSeq (mSet 2 (mPrim fMax [(aVar 2), (mPrim fIx [(aVar 1), (aVar 3)])])) mNext)) (mSeq (mRet (aVar 2)) mNext)))
def c_sale_price : FD := runDef 4 m_sale_price
def m_sale_of : MS := (mSeq (mSet 2 (mCall c_winners_of [(aVar 0), (aVar 1)])) (mSeq (mRet (mTup [(aVar 2), (mCall c_same_price [(mPrim fLen [(aVar 1)]), (aVar 2), (mCall c_sale_price [(aVar 0), (aVar 1)])])])) mNext))
def c_sale_of : FD := runDef 3 m_sale_of
def m__law_sale_right : MS := (mSeq (mIf (mTest (aVar 2)) (mSeq (mSet 3 (mCallKw c_sale_of [1, 0] 2 [(aVar 1), (aVar 0)])) mNext) (mSeq (mSet 3 (mCall c_sale_of [(aVar 0), (aVar 1)])) mNext)) (mSeq (mRet (mCall c__law_is_due [(aVar 3), (mCall c__law_sale [(aVar 0), (aVar 1)])])) mNext))
def c__law_sale_right : FD := runDef 4 m__law_sale_right
def m_law : MS := (mSeq (mSet 1 (mCall c__law_begin [(aVar 0)])) (mSeq (mSet 2 (mComp (mRange1 (mPrim fAdd [(aC (.int 1)), (mPrim fMin [(aC (.int 2)), (mPrim fDiv [(mPrim fLen [(aVar 0)]), (aC (.int 5))])])])) (gN 3) mYes (mCall c__law_world [(aVar 1)]) [3])) (mSeq (mExpr (mMeth 2 fAppend [(mPrim fIx [(aVar 2), (aC (.int 0))])])) (mSeq (mFor (mRange1 (mPrim fLen [(aVar 2)])) (gN 4) (mSeq (mSet 5 (mPrim fEq [(aVar 4), (mPrim fSub [(mPrim fLen [(aVar 2)]), (aC (.int 1))])])) (mSeq (mFor (mItems (mCall c__law_looks [(mPrim fIx [(aVar 2), (aVar 4)])])) (gT 3 (gsCons (gN 6) (gsCons (gN 7) (gsCons (gN 8) gsNil)))) (mSeq (mIf (mOrT (mNotT (mTest (mCall c__law_sale_right [(aVar 6), (aVar 7), (aVar 5)]))) (mNotT (mTest (mCall c__law_posted_right [(aVar 6), (aVar 8), (aVar 7), (aVar 5)])))) (mSeq (mRet (aC (.bl false))) mNext) mNext) mNext)) mNext))) (mSeq (mRet (aC (.bl true))) mNext)))))
def c_law : FD := runDef 9 m_law
end P_k21
namespace P_k21
open Z PySem PySem.Spec PyProof.Rows L2
def top (i : Nat) : Stmt := PySem.Challenge.pw_plainhearing_k21_sales_and_posted.main.body.getD i (.Pass ⟨0, 0, 0, 0⟩)
structure Fx (K : PySem.W.Frag) (mg : Str → Option Value) where
  a_same_price : Addr
  d_same_price : FuncData
  F_same_price : FunD K "same_price" "same_price" (defArgs (top 1)) (defBody (top 1)) (defScope (top 1)) [] [] a_same_price d_same_price
  g_same_price : mg "same_price" = some (.ref a_same_price)
  b_same_price : Binds K d_same_price ["many", "who", "price"] []
  a_is_higher : Addr
  d_is_higher : FuncData
  F_is_higher : FunD K "is_higher" "is_higher" (defArgs (top 2)) (defBody (top 2)) (defScope (top 2)) [] [] a_is_higher d_is_higher
  g_is_higher : mg "is_higher" = some (.ref a_is_higher)
  b_is_higher : Binds K d_is_higher ["bids", "person", "other"] []
  a_place_of : Addr
  d_place_of : FuncData
  F_place_of : FunD K "place_of" "place_of" (defArgs (top 3)) (defBody (top 3)) (defScope (top 3)) [] [] a_place_of d_place_of
  g_place_of : mg "place_of" = some (.ref a_place_of)
  b_place_of : Binds K d_place_of ["bids", "person"] []
  a_winners_of : Addr
  d_winners_of : FuncData
  F_winners_of : FunD K "winners_of" "winners_of" (defArgs (top 4)) (defBody (top 4)) (defScope (top 4)) [] [] a_winners_of d_winners_of
  g_winners_of : mg "winners_of" = some (.ref a_winners_of)
  b_winners_of : Binds K d_winners_of ["units", "bids"] []
  a_losers_of : Addr
  d_losers_of : FuncData
  F_losers_of : FunD K "losers_of" "losers_of" (defArgs (top 5)) (defBody (top 5)) (defScope (top 5)) [] [] a_losers_of d_losers_of
  g_losers_of : mg "losers_of" = some (.ref a_losers_of)
  b_losers_of : Binds K d_losers_of ["units", "bids"] []
  a_sale_price : Addr
  d_sale_price : FuncData
  F_sale_price : FunD K "sale_price" "sale_price" (defArgs (top 6)) (defBody (top 6)) (defScope (top 6)) [] [] a_sale_price d_sale_price
  g_sale_price : mg "sale_price" = some (.ref a_sale_price)
  b_sale_price : Binds K d_sale_price ["units", "bids"] []
  a_sale_of : Addr
  d_sale_of : FuncData
  F_sale_of : FunD K "sale_of" "sale_of" (defArgs (top 7)) (defBody (top 7)) (defScope (top 7)) [] [] a_sale_of d_sale_of
  g_sale_of : mg "sale_of" = some (.ref a_sale_of)
  b_sale_of : Binds K d_sale_of ["units", "bids"] []
  a_takers_of : Addr
  d_takers_of : FuncData
  F_takers_of : FunD K "takers_of" "takers_of" (defArgs (top 8)) (defBody (top 8)) (defScope (top 8)) [] [] a_takers_of d_takers_of
  g_takers_of : mg "takers_of" = some (.ref a_takers_of)
  b_takers_of : Binds K d_takers_of ["units", "prices", "bids"] []
  a_posted_of : Addr
  d_posted_of : FuncData
  F_posted_of : FunD K "posted_of" "posted_of" (defArgs (top 9)) (defBody (top 9)) (defScope (top 9)) [] [] a_posted_of d_posted_of
  g_posted_of : mg "posted_of" = some (.ref a_posted_of)
  b_posted_of : Binds K d_posted_of ["units", "prices", "bids"] []
  a__law_begin : Addr
  d__law_begin : FuncData
  F__law_begin : FunD K "_law_begin" "_law_begin" (defArgs (top 11)) (defBody (top 11)) (defScope (top 11)) [] [] a__law_begin d__law_begin
  g__law_begin : mg "_law_begin" = some (.ref a__law_begin)
  b__law_begin : Binds K d__law_begin ["script"] []
  a__law_draw : Addr
  d__law_draw : FuncData
  F__law_draw : FunD K "_law_draw" "_law_draw" (defArgs (top 12)) (defBody (top 12)) (defScope (top 12)) [] [] a__law_draw d__law_draw
  g__law_draw : mg "_law_draw" = some (.ref a__law_draw)
  b__law_draw : Binds K d__law_draw ["d", "many"] []
  a__law_pick : Addr
  d__law_pick : FuncData
  F__law_pick : FunD K "_law_pick" "_law_pick" (defArgs (top 13)) (defBody (top 13)) (defScope (top 13)) [] [] a__law_pick d__law_pick
  g__law_pick : mg "_law_pick" = some (.ref a__law_pick)
  b__law_pick : Binds K d__law_pick ["d", "row"] []
  a__law_is_int : Addr
  d__law_is_int : FuncData
  F__law_is_int : FunD K "_law_is_int" "_law_is_int" (defArgs (top 14)) (defBody (top 14)) (defScope (top 14)) [] [] a__law_is_int d__law_is_int
  g__law_is_int : mg "_law_is_int" = some (.ref a__law_is_int)
  b__law_is_int : Binds K d__law_is_int ["thing"] []
  a__law_is_ints : Addr
  d__law_is_ints : FuncData
  F__law_is_ints : FunD K "_law_is_ints" "_law_is_ints" (defArgs (top 15)) (defBody (top 15)) (defScope (top 15)) [] [] a__law_is_ints d__law_is_ints
  g__law_is_ints : mg "_law_is_ints" = some (.ref a__law_is_ints)
  b__law_is_ints : Binds K d__law_is_ints ["row"] []
  a__law_is_pair : Addr
  d__law_is_pair : FuncData
  F__law_is_pair : FunD K "_law_is_pair" "_law_is_pair" (defArgs (top 16)) (defBody (top 16)) (defScope (top 16)) [] [] a__law_is_pair d__law_is_pair
  g__law_is_pair : mg "_law_is_pair" = some (.ref a__law_is_pair)
  b__law_is_pair : Binds K d__law_is_pair ["thing"] []
  a__law_clip : Addr
  d__law_clip : FuncData
  F__law_clip : FunD K "_law_clip" "_law_clip" (defArgs (top 17)) (defBody (top 17)) (defScope (top 17)) [] [] a__law_clip d__law_clip
  g__law_clip : mg "_law_clip" = some (.ref a__law_clip)
  b__law_clip : Binds K d__law_clip ["number"] []
  a__law_amount : Addr
  d__law_amount : FuncData
  F__law_amount : FunD K "_law_amount" "_law_amount" (defArgs (top 18)) (defBody (top 18)) (defScope (top 18)) [] [] a__law_amount d__law_amount
  g__law_amount : mg "_law_amount" = some (.ref a__law_amount)
  b__law_amount : Binds K d__law_amount ["d", "there"] []
  a__law_world : Addr
  d__law_world : FuncData
  F__law_world : FunD K "_law_world" "_law_world" (defArgs (top 19)) (defBody (top 19)) (defScope (top 19)) [] [] a__law_world d__law_world
  g__law_world : mg "_law_world" = some (.ref a__law_world)
  b__law_world : Binds K d__law_world ["d"] []
  a__law_sale : Addr
  d__law_sale : FuncData
  F__law_sale : FunD K "_law_sale" "_law_sale" (defArgs (top 20)) (defBody (top 20)) (defScope (top 20)) [] [] a__law_sale d__law_sale
  g__law_sale : mg "_law_sale" = some (.ref a__law_sale)
  b__law_sale : Binds K d__law_sale ["count", "said"] []
  a__law_posted : Addr
  d__law_posted : FuncData
  F__law_posted : FunD K "_law_posted" "_law_posted" (defArgs (top 21)) (defBody (top 21)) (defScope (top 21)) [] [] a__law_posted d__law_posted
  g__law_posted : mg "_law_posted" = some (.ref a__law_posted)
  b__law_posted : Binds K d__law_posted ["count", "tags", "said"] []
  a__law_is_due : Addr
  d__law_is_due : FuncData
  F__law_is_due : FunD K "_law_is_due" "_law_is_due" (defArgs (top 22)) (defBody (top 22)) (defScope (top 22)) [] [] a__law_is_due d__law_is_due
  g__law_is_due : mg "_law_is_due" = some (.ref a__law_is_due)
  b__law_is_due : Binds K d__law_is_due ["told", "due"] []
  a__law_sale_right : Addr
  d__law_sale_right : FuncData
  F__law_sale_right : FunD K "_law_sale_right" "_law_sale_right" (defArgs (top 23)) (defBody (top 23)) (defScope (top 23)) [] [] a__law_sale_right d__law_sale_right
  g__law_sale_right : mg "_law_sale_right" = some (.ref a__law_sale_right)
  b__law_sale_right : Binds K d__law_sale_right ["count", "said", "by_name"] []
  a__law_posted_right : Addr
  d__law_posted_right : FuncData
  F__law_posted_right : FunD K "_law_posted_right" "_law_posted_right" (defArgs (top 24)) (defBody (top 24)) (defScope (top 24)) [] [] a__law_posted_right d__law_posted_right
  g__law_posted_right : mg "_law_posted_right" = some (.ref a__law_posted_right)
  b__law_posted_right : Binds K d__law_posted_right ["count", "tags", "said", "by_name"] []
  a__law_edge : Addr
  d__law_edge : FuncData
  F__law_edge : FunD K "_law_edge" "_law_edge" (defArgs (top 25)) (defBody (top 25)) (defScope (top 25)) [] [] a__law_edge d__law_edge
  g__law_edge : mg "_law_edge" = some (.ref a__law_edge)
  b__law_edge : Binds K d__law_edge ["count", "said", "person"] []
  a__law_with : Addr
  d__law_with : FuncData
  F__law_with : FunD K "_law_with" "_law_with" (defArgs (top 26)) (defBody (top 26)) (defScope (top 26)) [] [] a__law_with d__law_with
  g__law_with : mg "_law_with" = some (.ref a__law_with)
  b__law_with : Binds K d__law_with ["row", "k", "number"] []
  a__law_looks : Addr
  d__law_looks : FuncData
  F__law_looks : FunD K "_law_looks" "_law_looks" (defArgs (top 27)) (defBody (top 27)) (defScope (top 27)) [] [] a__law_looks d__law_looks
  g__law_looks : mg "_law_looks" = some (.ref a__law_looks)
  b__law_looks : Binds K d__law_looks ["world"] []
  a_law : Addr
  d_law : FuncData
  F_law : FunD K "law" "law" (defArgs (top 28)) (defBody (top 28)) (defScope (top 28)) [] [] a_law d_law
  g_law : mg "law" = some (.ref a_law)
  b_law : Binds K d_law ["script"] []
  kb_posted_of_bids_prices_units : KBinds K d_posted_of ["units", "prices", "bids"] ["bids", "prices", "units"] (kwV [2, 1, 0] 3) (kwV [2, 1, 0] 3)
  kb_sale_of_bids_units : KBinds K d_sale_of ["units", "bids"] ["bids", "units"] (kwV [1, 0] 2) (kwV [1, 0] 2)
  n_abs : mg "abs" = none
  n_all : mg "all" = none
  n_bool : mg "bool" = none
  n_int : mg "int" = none
  n_isinstance : mg "isinstance" = none
  n_len : mg "len" = none
  n_max : mg "max" = none
  n_min : mg "min" = none
  n_range : mg "range" = none
  n_sorted : mg "sorted" = none
  n_tuple : mg "tuple" = none
section
variable {P : Program} {w : World} {K : PySem.W.Frag} {mg : Str → Option Value} {base : Heap}
theorem sc_same_price : FnScope ["many", "who", "price", "payments", "person"] ["many", "who", "price"] (defScope (top 1)) := ⟨rfl, rfl, rfl, by decide +kernel, rfl, by decide +kernel, by decide +kernel⟩
theorem ok_same_price (W : Fx K mg) : FnOk P w K mg base CX0 1 W.a_same_price W.d_same_price ["many", "who", "price"] (spD K 3 c_same_price) :=
  fn_okD W.F_same_price sc_same_price rfl rfl fun cdv A outer s H E hr => (have hN := sc_same_price.nd; (sss_cons (ss_set (sa_lst sas_nil) hN) (sss_cons (ss_for PassesOwn.never rfl (si_range1 W.n_range sa_var) (sg_name hN) (sss_cons (ss_if (st_cmp (op_inAll (u65 hr)) s_in (by rfl) sa_var sa_var bl_in) (sss_cons (ss_expr (sa_meth PySem.F.slot_list_append PySem.F.type_list_append mt_append s_append (sas_cons sa_var sas_nil))) sss_nil) (sss_cons (ss_expr (sa_meth PySem.F.slot_list_append PySem.F.type_list_append mt_append s_append (sas_cons sa_int sas_nil))) sss_nil)) sss_nil)) (sss_cons (ss_ret (sa_callTy call_tuple_ofF s_tuple W.n_tuple (by decide +kernel) (sas_cons sa_var sas_nil))) sss_nil))) : SSs _ _ m_same_price)
theorem sc_is_higher : FnScope ["bids", "person", "other"] ["bids", "person", "other"] (defScope (top 2)) := ⟨rfl, rfl, rfl, by decide +kernel, rfl, by decide +kernel, by decide +kernel⟩
theorem ok_is_higher (W : Fx K mg) : FnOk P w K mg base CX0 1 W.a_is_higher W.d_is_higher ["bids", "person", "other"] (spD K 3 c_is_higher) :=
  fn_okD W.F_is_higher sc_is_higher rfl rfl fun cdv A outer s H E hr => (have hN := sc_is_higher.nd; (sss_cons (ss_if (st_cmp (op_neD (u64 hr)) s_ne (nomark _) (sa_ix (u1 hr) sa_var sa_var) (sa_ix (u1 hr) sa_var sa_var) bl_ne) (sss_cons (ss_ret (sa_cmp op_gt s_cmp (nomark _) (sa_ix (u1 hr) sa_var sa_var) (sa_ix (u1 hr) sa_var sa_var))) sss_nil) sss_nil) (sss_cons (ss_ret (sa_cmp op_lt s_cmp (nomark _) sa_var sa_var)) sss_nil)) : SSs _ _ m_is_higher)
theorem sc_takers_of : FnScope ["units", "prices", "bids", "left", "takers", "person"] ["units", "prices", "bids"] (defScope (top 8)) := ⟨rfl, rfl, rfl, by decide +kernel, rfl, by decide +kernel, by decide +kernel⟩
theorem ok_takers_of (W : Fx K mg) : FnOk P w K mg base CX0 1 W.a_takers_of W.d_takers_of ["units", "prices", "bids"] (spD K 3 c_takers_of) :=
  fn_okD W.F_takers_of sc_takers_of rfl rfl fun cdv A outer s H E hr => (have hN := sc_takers_of.nd; (sss_cons (ss_set sa_var hN) (sss_cons (ss_set (sa_lst sas_nil) hN) (sss_cons (ss_for PassesOwn.never rfl (si_range1 W.n_range (sa_callB call_lenAll s_len W.n_len (by decide +kernel) (sas_cons sa_var sas_nil))) (sg_name hN) (sss_cons (ss_if (sw_and (st_cmp op_gt s_cmp (nomark _) sa_var sa_int bl_cmp) (sw_and1 (st_cmp op_ge s_cmp (nomark _) (sa_ix (u1 hr) sa_var sa_var) (sa_ix (u1 hr) sa_var sa_var) bl_cmp))).st (sss_cons (ss_expr (sa_meth PySem.F.slot_list_append PySem.F.type_list_append mt_append s_append (sas_cons sa_var sas_nil))) (sss_cons (ss_set (sa_bin op_sub s_sub sa_var sa_int) hN) sss_nil)) sss_nil) sss_nil)) (sss_cons (ss_ret (sa_callTy call_tuple_ofF s_tuple W.n_tuple (by decide +kernel) (sas_cons sa_var sas_nil))) sss_nil)))) : SSs _ _ m_takers_of)
theorem sc__law_begin : FnScope ["script", "cell"] ["script"] (defScope (top 11)) := ⟨rfl, rfl, rfl, by decide +kernel, rfl, by decide +kernel, by decide +kernel⟩
theorem ok__law_begin (W : Fx K mg) : FnOk P w K mg base CX0 1 W.a__law_begin W.d__law_begin ["script"] (spD K 1 c__law_begin) :=
  fn_okD W.F__law_begin sc__law_begin rfl rfl fun cdv A outer s H E hr => (have hN := sc__law_begin.nd; (sss_cons (ss_ret (sa_lst (sas_cons (sa_lc rfl hN (si_seq sa_var) (blk_of (own := [("cell", 1)]) (by kernel_rfl)) rfl (fun _ _ _ _ _ => (sg_name hN)) (fun _ _ _ _ _ => sts_nil) (fun _ _ _ _ _ => (sa_callTy call_int1 s_int W.n_int (by decide +kernel) (sas_cons sa_var sas_nil)))) (sas_cons sa_int (sas_cons sa_int (sas_cons sa_int sas_nil)))))) sss_nil) : SSs _ _ m__law_begin)
theorem sc__law_draw : FnScope ["d", "many", "found", "size", "cell"] ["d", "many"] (defScope (top 12)) := ⟨rfl, rfl, rfl, by decide +kernel, rfl, by decide +kernel, by decide +kernel⟩
theorem ok__law_draw (W : Fx K mg) : FnOk P w K mg base CX0 1 W.a__law_draw W.d__law_draw ["d", "many"] (spD K 2 c__law_draw) :=
  fn_okD W.F__law_draw sc__law_draw rfl rfl fun cdv A outer s H E hr => (have hN := sc__law_draw.nd; (sss_cons (ss_if (st_cmp op_gt s_cmp (nomark _) (sa_ix (u1 hr) sa_var sa_int) sa_int bl_cmp) (sss_cons (ss_set (sa_ix (u1 hr) sa_var sa_int) hN) (sss_cons (ss_setIxL (by rfl) (by first | exact Or.inl rfl | exact Or.inr (Or.inl rfl) | exact Or.inr (Or.inr rfl)) (by decide) (by decide) (sa_bin op_fdiv s_div sa_var sa_var) sa_int (by rfl) (by rfl) (by intros; rfl) (by rfl)) (sss_cons (ss_ret (sa_bin op_mod s_mod (sa_callTy call_int1 s_int W.n_int (by decide +kernel) (sas_cons sa_var sas_nil)) sa_var)) sss_nil))) sss_nil) (sss_cons (ss_set sa_int hN) (sss_cons (ss_if (st_cmp op_lt s_cmp (nomark _) (sa_ix (u1 hr) sa_var sa_int) (sa_callB call_lenAll s_len W.n_len (by decide +kernel) (sas_cons (sa_ix (u1 hr) sa_var sa_int) sas_nil)) bl_cmp) (sss_cons (ss_set (sa_ix (u1 hr) (sa_ix (u1 hr) sa_var sa_int) (sa_ix (u1 hr) sa_var sa_int)) hN) (sss_cons (ss_set (sa_bin op_addAll s_add (sa_bin op_mulAll s_mul sa_int (sa_callB call_abs s_abs W.n_abs (by decide +kernel) (sas_cons sa_var sas_nil))) (sa_callTy call_int1 s_int W.n_int (by decide +kernel) (sas_cons (sa_cmp op_lt s_cmp (nomark _) sa_var sa_int) sas_nil))) hN) sss_nil)) sss_nil) (sss_cons (ss_augIx iop_addAll s_iadd sa_int sa_int) (sss_cons (ss_if (st_cmp op_ge s_cmp (nomark _) sa_var (sa_bin op_mulAll s_mul sa_int (sa_bin op_pow s_pow sa_int sa_int)) bl_cmp) (sss_cons (ss_set (sa_bin op_mod s_mod (sa_callTy call_int1 s_int W.n_int (by decide +kernel) (sas_cons (sa_bin op_fdiv s_div sa_var sa_int) sas_nil)) (sa_bin op_shl s_shl sa_int sa_int)) hN) (sss_cons (ss_setIxL (by rfl) (by first | exact Or.inl rfl | exact Or.inr (Or.inl rfl) | exact Or.inr (Or.inr rfl)) (by decide) (by decide) (sa_bin op_fdiv s_div sa_var sa_var) sa_int (by rfl) (by rfl) (by intros; rfl) (by rfl)) (sss_cons (ss_ret (sa_bin op_mod s_mod (sa_callTy call_int1 s_int W.n_int (by decide +kernel) (sas_cons sa_var sas_nil)) sa_var)) sss_nil))) sss_nil) (sss_cons (ss_setIxL (by rfl) (by first | exact Or.inl rfl | exact Or.inr (Or.inl rfl) | exact Or.inr (Or.inr rfl)) (by decide) (by decide) (sa_bin op_mod s_mod (sa_callTy call_int1 s_int W.n_int (by decide +kernel) (sas_cons (sa_bin op_addAll s_add (sa_bin op_addAll s_add (sa_bin op_addAll s_add (sa_bin op_mulAll s_mul (sa_ix (u1 hr) sa_var sa_int) sa_int) (sa_bin op_mulAll s_mul (sa_bin op_mod s_mod (sa_callTy call_int1 s_int W.n_int (by decide +kernel) (sas_cons sa_var sas_nil)) sa_int) sa_int)) (sa_bin op_mulAll s_mul (sa_ix (u1 hr) sa_var sa_int) sa_int)) sa_int) sas_nil)) sa_int) sa_int (by rfl) (by rfl) (by intros; rfl) (by rfl)) (sss_cons (ss_ret (sa_bin op_mod s_mod (sa_callTy call_int1 s_int W.n_int (by decide +kernel) (sas_cons (sa_bin op_fdiv s_div (sa_ix (u1 hr) sa_var sa_int) sa_int) sas_nil)) sa_var)) sss_nil))))))) : SSs _ _ m__law_draw)
theorem sc__law_is_int : FnScope ["thing"] ["thing"] (defScope (top 14)) := ⟨rfl, rfl, rfl, by decide +kernel, rfl, by decide +kernel, by decide +kernel⟩
theorem ok__law_is_int (W : Fx K mg) : FnOk P w K mg base CX0 1 W.a__law_is_int W.d__law_is_int ["thing"] (spD K 1 c__law_is_int) :=
  fn_okD W.F__law_is_int sc__law_is_int rfl rfl fun cdv A outer s H E hr => (have hN := sc__law_is_int.nd; (sss_cons (ss_ret (sa_and (sa_isi (T := "int") W.n_isinstance W.n_int sa_var rfl) (sa_one (sa_not (sa_isi (T := "bool") W.n_isinstance W.n_bool sa_var rfl))))) sss_nil) : SSs _ _ m__law_is_int)
theorem sc__law_is_pair : FnScope ["thing"] ["thing"] (defScope (top 16)) := ⟨rfl, rfl, rfl, by decide +kernel, rfl, by decide +kernel, by decide +kernel⟩
theorem ok__law_is_pair (W : Fx K mg) : FnOk P w K mg base CX0 1 W.a__law_is_pair W.d__law_is_pair ["thing"] (spD K 1 c__law_is_pair) :=
  fn_okD W.F__law_is_pair sc__law_is_pair rfl rfl fun cdv A outer s H E hr => (have hN := sc__law_is_pair.nd; (sss_cons (ss_ret (sa_and (sa_isi (T := "tuple") W.n_isinstance W.n_tuple sa_var rfl) (sa_one (sa_cmp (op_eqD (u64 hr)) s_eq (nomark _) (sa_callB call_lenAll s_len W.n_len (by decide +kernel) (sas_cons sa_var sas_nil)) sa_int)))) sss_nil) : SSs _ _ m__law_is_pair)
theorem sc__law_clip : FnScope ["number"] ["number"] (defScope (top 17)) := ⟨rfl, rfl, rfl, by decide +kernel, rfl, by decide +kernel, by decide +kernel⟩
theorem ok__law_clip (W : Fx K mg) : FnOk P w K mg base CX0 1 W.a__law_clip W.d__law_clip ["number"] (spD K 1 c__law_clip) :=
  fn_okD W.F__law_clip sc__law_clip rfl rfl fun cdv A outer s H E hr => (have hN := sc__law_clip.nd; (sss_cons (ss_ret (sa_callB (call_maxAll rfl) s_max W.n_max (by decide +kernel) (sas_cons sa_int (sas_cons (sa_callB (call_minAll rfl) s_min W.n_min (by decide +kernel) (sas_cons sa_int (sas_cons sa_var sas_nil))) sas_nil)))) sss_nil) : SSs _ _ m__law_clip)
theorem sc__law_sale : FnScope ["count", "said", "line", "k", "who", "pair", "price"] ["count", "said"] (defScope (top 20)) := ⟨rfl, rfl, rfl, by decide +kernel, rfl, by decide +kernel, by decide +kernel⟩
theorem ok__law_sale (W : Fx K mg) : FnOk P w K mg base CX0 1 W.a__law_sale W.d__law_sale ["count", "said"] (spD K 2 c__law_sale) :=
  fn_okD W.F__law_sale sc__law_sale rfl rfl fun cdv A outer s H E hr => (have hN := sc__law_sale.nd; (sss_cons (ss_set (sa_callB call_sortAll s_sort W.n_sorted (by decide +kernel) (sas_cons (sa_lc rfl hN (si_range1 W.n_range (sa_callB call_lenAll s_len W.n_len (by decide +kernel) (sas_cons sa_var sas_nil))) (blk_of (own := [("k", 3)]) (by kernel_rfl)) rfl (fun _ _ _ _ _ => (sg_name hN)) (fun _ _ _ _ _ => sts_nil) (fun _ _ _ _ _ => (sa_tup (sas_cons (sa_bin op_sub s_sub sa_int (sa_ix (u1 hr) sa_var sa_var)) (sas_cons sa_var sas_nil))))) sas_nil)) hN) (sss_cons (ss_set (sa_callB call_sortAll s_sort W.n_sorted (by decide +kernel) (sas_cons (sa_lc rfl hN (si_seq (sa_slice sa_var spo_none (spo_some sa_var))) (blk_of (own := [("pair", 5)]) (by kernel_rfl)) rfl (fun _ _ _ _ _ => (sg_name hN)) (fun _ _ _ _ _ => sts_nil) (fun _ _ _ _ _ => (sa_ix (u1 hr) sa_var sa_int))) sas_nil)) hN) (sss_cons (ss_set sa_int hN) (sss_cons (ss_if (st_cmp op_gt s_cmp (nomark _) (sa_callB call_lenAll s_len W.n_len (by decide +kernel) (sas_cons sa_var sas_nil)) sa_var bl_cmp) (sss_cons (ss_set (sa_bin op_sub s_sub sa_int (sa_ix (u1 hr) (sa_ix (u1 hr) sa_var sa_var) sa_int)) hN) sss_nil) sss_nil) (sss_cons (ss_ret (sa_tup (sas_cons (sa_callTy call_tuple_ofF s_tuple W.n_tuple (by decide +kernel) (sas_cons sa_var sas_nil)) (sas_cons (sa_callTy call_tuple_ofF s_tuple W.n_tuple (by decide +kernel) (sas_cons (sa_lc rfl hN (si_range1 W.n_range (sa_callB call_lenAll s_len W.n_len (by decide +kernel) (sas_cons sa_var sas_nil))) (blk_of (own := [("k", 3)]) (by kernel_rfl)) rfl (fun _ _ _ _ _ => (sg_name hN)) (fun _ _ _ _ _ => sts_nil) (fun _ _ _ _ _ => (sa_bin op_mulAll s_mul sa_var (sa_callTy call_int1 s_int W.n_int (by decide +kernel) (sas_cons (sa_cmp (op_inAll (u65 hr)) s_in (by rfl) sa_var sa_var) sas_nil))))) sas_nil)) sas_nil)))) sss_nil))))) : SSs _ _ m__law_sale)
theorem sc__law_posted : FnScope ["count", "tags", "said", "willing", "k", "who"] ["count", "tags", "said"] (defScope (top 21)) := ⟨rfl, rfl, rfl, by decide +kernel, rfl, by decide +kernel, by decide +kernel⟩
theorem ok__law_posted (W : Fx K mg) : FnOk P w K mg base CX0 1 W.a__law_posted W.d__law_posted ["count", "tags", "said"] (spD K 3 c__law_posted) :=
  fn_okD W.F__law_posted sc__law_posted rfl rfl fun cdv A outer s H E hr => (have hN := sc__law_posted.nd; (sss_cons (ss_setLc rfl hN (si_range1 W.n_range (sa_callB call_lenAll s_len W.n_len (by decide +kernel) (sas_cons sa_var sas_nil))) (blk_of (own := [("k", 4)]) (by kernel_rfl)) rfl (fun _ _ _ _ _ => (sg_name hN)) (fun _ _ _ _ _ => (sts_one (st_cmp op_ge s_cmp (nomark _) (sa_ix (u1 hr) sa_var sa_var) (sa_ix (u1 hr) sa_var sa_var) bl_cmp))) (fun _ _ _ _ _ => sa_var)) (sss_cons (ss_set (sa_slice sa_var spo_none (spo_some sa_var)) hN) (sss_cons (ss_ret (sa_tup (sas_cons (sa_callTy call_tuple_ofF s_tuple W.n_tuple (by decide +kernel) (sas_cons sa_var sas_nil)) (sas_cons (sa_callTy call_tuple_ofF s_tuple W.n_tuple (by decide +kernel) (sas_cons (sa_lc rfl hN (si_range1 W.n_range (sa_callB call_lenAll s_len W.n_len (by decide +kernel) (sas_cons sa_var sas_nil))) (blk_of (own := [("k", 4)]) (by kernel_rfl)) rfl (fun _ _ _ _ _ => (sg_name hN)) (fun _ _ _ _ _ => sts_nil) (fun _ _ _ _ _ => (sa_bin op_mulAll s_mul (sa_ix (u1 hr) sa_var sa_var) (sa_callTy call_int1 s_int W.n_int (by decide +kernel) (sas_cons (sa_cmp (op_inAll (u65 hr)) s_in (by rfl) sa_var sa_var) sas_nil))))) sas_nil)) sas_nil)))) sss_nil))) : SSs _ _ m__law_posted)
theorem sc__law_edge : FnScope ["count", "said", "person", "others", "k"] ["count", "said", "person"] (defScope (top 25)) := ⟨rfl, rfl, rfl, by decide +kernel, rfl, by decide +kernel, by decide +kernel⟩
theorem ok__law_edge (W : Fx K mg) : FnOk P w K mg base CX0 1 W.a__law_edge W.d__law_edge ["count", "said", "person"] (spD K 3 c__law_edge) :=
  fn_okD W.F__law_edge sc__law_edge rfl rfl fun cdv A outer s H E hr => (have hN := sc__law_edge.nd; (sss_cons (ss_set (sa_callB call_sortAll s_sort W.n_sorted (by decide +kernel) (sas_cons (sa_lc rfl hN (si_range1 W.n_range (sa_callB call_lenAll s_len W.n_len (by decide +kernel) (sas_cons sa_var sas_nil))) (blk_of (own := [("k", 4)]) (by kernel_rfl)) rfl (fun _ _ _ _ _ => (sg_name hN)) (fun _ _ _ _ _ => (sts_one (st_cmp (op_neD (u64 hr)) s_ne (nomark _) sa_var sa_var bl_ne))) (fun _ _ _ _ _ => (sa_bin op_sub s_sub sa_int (sa_ix (u1 hr) sa_var sa_var)))) sas_nil)) hN) (sss_cons (ss_if (st_cmp op_lt s_cmp (nomark _) (sa_callB call_lenAll s_len W.n_len (by decide +kernel) (sas_cons sa_var sas_nil)) sa_var bl_cmp) (sss_cons (ss_ret sa_int) sss_nil) sss_nil) (sss_cons (ss_ret (sa_bin op_sub s_sub sa_int (sa_ix (u1 hr) sa_var (sa_bin op_sub s_sub sa_var sa_int)))) sss_nil))) : SSs _ _ m__law_edge)
theorem sc_place_of : FnScope ["bids", "person", "place", "other"] ["bids", "person"] (defScope (top 3)) := ⟨rfl, rfl, rfl, by decide +kernel, rfl, by decide +kernel, by decide +kernel⟩
theorem ok_place_of (W : Fx K mg) : FnOk P w K mg base CX0 2 W.a_place_of W.d_place_of ["bids", "person"] (spD K 2 c_place_of) :=
  fn_okD W.F_place_of sc_place_of rfl rfl fun cdv A outer s H E hr => (have hN := sc_place_of.nd; (sss_cons (ss_set sa_int hN) (sss_cons (ss_for PassesOwn.never rfl (si_range1 W.n_range (sa_callB call_lenAll s_len W.n_len (by decide +kernel) (sas_cons sa_var sas_nil))) (sg_name hN) (sss_cons (ss_if (sw_and (st_cmp (op_neD (u64 hr)) s_ne (nomark _) sa_var sa_var bl_ne) (sw_and1 (st_truth (sa_call (ok_is_higher W) (hr.mono (by decide)) W.g_is_higher W.F_is_higher.kp W.b_is_higher (sas_cons sa_var (sas_cons sa_var (sas_cons sa_var sas_nil))))))).st (sss_cons (ss_set (sa_bin op_addAll s_add sa_var sa_int) hN) sss_nil) sss_nil) sss_nil)) (sss_cons (ss_ret sa_var) sss_nil))) : SSs _ _ m_place_of)
theorem sc_posted_of : FnScope ["units", "prices", "bids", "who", "payments", "person"] ["units", "prices", "bids"] (defScope (top 9)) := ⟨rfl, rfl, rfl, by decide +kernel, rfl, by decide +kernel, by decide +kernel⟩
theorem ok_posted_of (W : Fx K mg) : FnOk P w K mg base CX0 2 W.a_posted_of W.d_posted_of ["units", "prices", "bids"] (spD K 3 c_posted_of) :=
  fn_okD W.F_posted_of sc_posted_of rfl rfl fun cdv A outer s H E hr => (have hN := sc_posted_of.nd; (sss_cons (ss_set (sa_call (ok_takers_of W) (hr.mono (by decide)) W.g_takers_of W.F_takers_of.kp W.b_takers_of (sas_cons sa_var (sas_cons sa_var (sas_cons sa_var sas_nil)))) hN) (sss_cons (ss_set (sa_lst sas_nil) hN) (sss_cons (ss_for PassesOwn.never rfl (si_range1 W.n_range (sa_callB call_lenAll s_len W.n_len (by decide +kernel) (sas_cons sa_var sas_nil))) (sg_name hN) (sss_cons (ss_if (st_cmp (op_inAll (u65 hr)) s_in (by rfl) sa_var sa_var bl_in) (sss_cons (ss_expr (sa_meth PySem.F.slot_list_append PySem.F.type_list_append mt_append s_append (sas_cons (sa_ix (u1 hr) sa_var sa_var) sas_nil))) sss_nil) (sss_cons (ss_expr (sa_meth PySem.F.slot_list_append PySem.F.type_list_append mt_append s_append (sas_cons sa_int sas_nil))) sss_nil)) sss_nil)) (sss_cons (ss_ret (sa_tup (sas_cons sa_var (sas_cons (sa_callTy call_tuple_ofF s_tuple W.n_tuple (by decide +kernel) (sas_cons sa_var sas_nil)) sas_nil)))) sss_nil)))) : SSs _ _ m_posted_of)
theorem sc__law_pick : FnScope ["d", "row"] ["d", "row"] (defScope (top 13)) := ⟨rfl, rfl, rfl, by decide +kernel, rfl, by decide +kernel, by decide +kernel⟩
theorem ok__law_pick (W : Fx K mg) : FnOk P w K mg base CX0 2 W.a__law_pick W.d__law_pick ["d", "row"] (spD K 2 c__law_pick) :=
  fn_okD W.F__law_pick sc__law_pick rfl rfl fun cdv A outer s H E hr => (have hN := sc__law_pick.nd; (sss_cons (ss_ret (sa_ix (u1 hr) sa_var (sa_call (ok__law_draw W) (hr.mono (by decide)) W.g__law_draw W.F__law_draw.kp W.b__law_draw (sas_cons sa_var (sas_cons (sa_callB call_lenAll s_len W.n_len (by decide +kernel) (sas_cons sa_var sas_nil)) sas_nil))))) sss_nil) : SSs _ _ m__law_pick)
theorem sc__law_is_ints : FnScope ["row", "share"] ["row"] (defScope (top 15)) := ⟨rfl, rfl, rfl, by decide +kernel, rfl, by decide +kernel, by decide +kernel⟩
theorem ok__law_is_ints (W : Fx K mg) : FnOk P w K mg base CX0 2 W.a__law_is_ints W.d__law_is_ints ["row"] (spD K 1 c__law_is_ints) :=
  fn_okD W.F__law_is_ints sc__law_is_ints rfl rfl fun cdv A outer s H E hr => (have hN := sc__law_is_ints.nd; (sss_cons (ss_ret (sa_and (sa_isi (T := "tuple") W.n_isinstance W.n_tuple sa_var rfl) (sa_one (sa_callB (cr_all rfl) s_all W.n_all (by decide +kernel) (sas_cons (sa_lc rfl hN (si_seq sa_var) (blk_of (own := [("share", 1)]) (by kernel_rfl)) rfl (fun _ _ _ _ _ => (sg_name hN)) (fun _ _ _ _ _ => sts_nil) (fun _ _ _ _ _ => (sa_call (ok__law_is_int W) (hr.mono (by decide)) W.g__law_is_int W.F__law_is_int.kp W.b__law_is_int (sas_cons sa_var sas_nil)))) sas_nil))))) sss_nil) : SSs _ _ m__law_is_ints)
theorem sc__law_with : FnScope ["row", "k", "number"] ["row", "k", "number"] (defScope (top 26)) := ⟨rfl, rfl, rfl, by decide +kernel, rfl, by decide +kernel, by decide +kernel⟩
theorem ok__law_with (W : Fx K mg) : FnOk P w K mg base CX0 2 W.a__law_with W.d__law_with ["row", "k", "number"] (spD K 3 c__law_with) :=
  fn_okD W.F__law_with sc__law_with rfl rfl fun cdv A outer s H E hr => (have hN := sc__law_with.nd; (sss_cons (ss_ret (sa_bin op_addAll s_add (sa_bin op_addAll s_add (sa_slice sa_var spo_none (spo_some sa_var)) (sa_tup (sas_cons (sa_call (ok__law_clip W) (hr.mono (by decide)) W.g__law_clip W.F__law_clip.kp W.b__law_clip (sas_cons sa_var sas_nil)) sas_nil))) (sa_slice sa_var (spo_some (sa_bin op_addAll s_add sa_var sa_int)) spo_none))) sss_nil) : SSs _ _ m__law_with)
theorem sc_winners_of : FnScope ["units", "bids", "person"] ["units", "bids"] (defScope (top 4)) := ⟨rfl, rfl, rfl, by decide +kernel, rfl, by decide +kernel, by decide +kernel⟩
theorem ok_winners_of (W : Fx K mg) : FnOk P w K mg base CX0 3 W.a_winners_of W.d_winners_of ["units", "bids"] (spD K 2 c_winners_of) :=
  fn_okD W.F_winners_of sc_winners_of rfl rfl fun cdv A outer s H E hr => (have hN := sc_winners_of.nd; (sss_cons (ss_ret (sa_callTy call_tuple_ofF s_tuple W.n_tuple (by decide +kernel) (sas_cons (sa_lc rfl hN (si_range1 W.n_range (sa_callB call_lenAll s_len W.n_len (by decide +kernel) (sas_cons sa_var sas_nil))) (blk_of (own := [("person", 2)]) (by kernel_rfl)) rfl (fun _ _ _ _ _ => (sg_name hN)) (fun _ _ _ _ _ => (sts_one (st_cmp op_lt s_cmp (nomark _) (sa_call (ok_place_of W) (hr.mono (by decide)) W.g_place_of W.F_place_of.kp W.b_place_of (sas_cons sa_var (sas_cons sa_var sas_nil))) sa_var bl_cmp))) (fun _ _ _ _ _ => sa_var)) sas_nil))) sss_nil) : SSs _ _ m_winners_of)
theorem sc__law_amount : FnScope ["d", "there", "mode"] ["d", "there"] (defScope (top 18)) := ⟨rfl, rfl, rfl, by decide +kernel, rfl, by decide +kernel, by decide +kernel⟩
theorem ok__law_amount (W : Fx K mg) : FnOk P w K mg base CX0 3 W.a__law_amount W.d__law_amount ["d", "there"] (spD K 2 c__law_amount) :=
  fn_okD W.F__law_amount sc__law_amount rfl rfl fun cdv A outer s H E hr => (have hN := sc__law_amount.nd; (sss_cons (ss_set (sa_call (ok__law_draw W) (hr.mono (by decide)) W.g__law_draw W.F__law_draw.kp W.b__law_draw (sas_cons sa_var (sas_cons sa_int sas_nil))) hN) (sss_cons (ss_if (st_cmp (op_eqD (u64 hr)) s_eq (nomark _) sa_var sa_int bl_eq) (sss_cons (ss_ret (sa_call (ok__law_draw W) (hr.mono (by decide)) W.g__law_draw W.F__law_draw.kp W.b__law_draw (sas_cons sa_var (sas_cons sa_int sas_nil)))) sss_nil) sss_nil) (sss_cons (ss_if (st_cmp (op_eqD (u64 hr)) s_eq (nomark _) sa_var sa_int bl_eq) (sss_cons (ss_ret (sa_call (ok__law_pick W) (hr.mono (by decide)) W.g__law_pick W.F__law_pick.kp W.b__law_pick (sas_cons sa_var (sas_cons (sa_lst (sas_cons sa_int (sas_cons sa_int (sas_cons sa_int (sas_cons sa_int sas_nil))))) sas_nil)))) sss_nil) sss_nil) (sss_cons (ss_if (sw_and (st_cmp (op_eqD (u64 hr)) s_eq (nomark _) sa_var sa_int bl_eq) (sw_and1 (st_truth sa_var))).st (sss_cons (ss_ret (sa_call (ok__law_clip W) (hr.mono (by decide)) W.g__law_clip W.F__law_clip.kp W.b__law_clip (sas_cons (sa_bin op_sub s_sub (sa_bin op_addAll s_add (sa_call (ok__law_pick W) (hr.mono (by decide)) W.g__law_pick W.F__law_pick.kp W.b__law_pick (sas_cons sa_var (sas_cons sa_var sas_nil))) (sa_call (ok__law_draw W) (hr.mono (by decide)) W.g__law_draw W.F__law_draw.kp W.b__law_draw (sas_cons sa_var (sas_cons sa_int sas_nil)))) sa_int) sas_nil))) sss_nil) sss_nil) (sss_cons (ss_ret (sa_call (ok__law_draw W) (hr.mono (by decide)) W.g__law_draw W.F__law_draw.kp W.b__law_draw (sas_cons sa_var (sas_cons sa_int sas_nil)))) sss_nil))))) : SSs _ _ m__law_amount)
theorem sc__law_is_due : FnScope ["told", "due"] ["told", "due"] (defScope (top 22)) := ⟨rfl, rfl, rfl, by decide +kernel, rfl, by decide +kernel, by decide +kernel⟩
theorem ok__law_is_due (W : Fx K mg) : FnOk P w K mg base CX0 3 W.a__law_is_due W.d__law_is_due ["told", "due"] (spD K 2 c__law_is_due) :=
  fn_okD W.F__law_is_due sc__law_is_due rfl rfl fun cdv A outer s H E hr => (have hN := sc__law_is_due.nd; (sss_cons (ss_if (sw_or (st_not (st_truth (sa_call (ok__law_is_pair W) (hr.mono (by decide)) W.g__law_is_pair W.F__law_is_pair.kp W.b__law_is_pair (sas_cons sa_var sas_nil)))) (sw_or (st_not (st_truth (sa_call (ok__law_is_ints W) (hr.mono (by decide)) W.g__law_is_ints W.F__law_is_ints.kp W.b__law_is_ints (sas_cons (sa_ix (u1 hr) sa_var sa_int) sas_nil)))) (sw_or1 (st_not (st_truth (sa_call (ok__law_is_ints W) (hr.mono (by decide)) W.g__law_is_ints W.F__law_is_ints.kp W.b__law_is_ints (sas_cons (sa_ix (u1 hr) sa_var sa_int) sas_nil))))))).st (sss_cons (ss_ret sa_bl) sss_nil) sss_nil) (sss_cons (ss_ret (sa_cmp (op_eqD (u64 hr)) s_eq (nomark _) sa_var sa_var)) sss_nil)) : SSs _ _ m__law_is_due)
theorem sc__law_looks : FnScope ["world", "count", "said", "tags", "looks", "many", "k", "edge", "number"] ["world"] (defScope (top 27)) := ⟨rfl, rfl, rfl, by decide +kernel, rfl, by decide +kernel, by decide +kernel⟩
theorem ok__law_looks (W : Fx K mg) : FnOk P w K mg base CX0 3 W.a__law_looks W.d__law_looks ["world"] (spD K 1 c__law_looks) :=
  fn_okD W.F__law_looks sc__law_looks rfl rfl fun cdv A outer s H E hr => (have hN := sc__law_looks.nd; (sss_cons (ss_asg sa_var (sg_tup rfl (sgs_cons (sg_name hN) (sgs_cons (sg_name hN) (sgs_cons (sg_name hN) sgs_nil))))) (sss_cons (ss_setLc rfl hN (si_range2 W.n_range sa_int sa_int) (blk_of (own := [("many", 5)]) (by kernel_rfl)) rfl (fun _ _ _ _ _ => (sg_name hN)) (fun _ _ _ _ _ => sts_nil) (fun _ _ _ _ _ => (sa_tup (sas_cons sa_var (sas_cons sa_var (sas_cons sa_var sas_nil)))))) (sss_cons (ss_for PassesOwn.never rfl (si_range1 W.n_range (sa_callB call_lenAll s_len W.n_len (by decide +kernel) (sas_cons sa_var sas_nil))) (sg_name hN) (sss_cons (ss_set (sa_call (ok__law_edge W) (hr.mono (by decide)) W.g__law_edge W.F__law_edge.kp W.b__law_edge (sas_cons sa_var (sas_cons sa_var (sas_cons sa_var sas_nil)))) hN) (sss_cons (ss_for PassesOwn.never rfl (si_seq (sa_tup (sas_cons sa_int (sas_cons sa_int (sas_cons (sa_bin op_sub s_sub sa_var sa_int) (sas_cons sa_var (sas_cons (sa_bin op_addAll s_add sa_var sa_int) sas_nil))))))) (sg_name hN) (sss_cons (ss_expr (sa_meth PySem.F.slot_list_append PySem.F.type_list_append mt_append s_append (sas_cons (sa_tup (sas_cons sa_var (sas_cons (sa_call (ok__law_with W) (hr.mono (by decide)) W.g__law_with W.F__law_with.kp W.b__law_with (sas_cons sa_var (sas_cons sa_var (sas_cons sa_var sas_nil)))) (sas_cons sa_var sas_nil)))) sas_nil))) sss_nil)) (sss_cons (ss_for PassesOwn.never rfl (si_seq (sa_tup (sas_cons sa_int (sas_cons sa_int (sas_cons (sa_bin op_sub s_sub (sa_ix (u1 hr) sa_var sa_var) sa_int) (sas_cons (sa_ix (u1 hr) sa_var sa_var) (sas_cons (sa_bin op_addAll s_add (sa_ix (u1 hr) sa_var sa_var) sa_int) sas_nil))))))) (sg_name hN) (sss_cons (ss_expr (sa_meth PySem.F.slot_list_append PySem.F.type_list_append mt_append s_append (sas_cons (sa_tup (sas_cons sa_var (sas_cons sa_var (sas_cons (sa_call (ok__law_with W) (hr.mono (by decide)) W.g__law_with W.F__law_with.kp W.b__law_with (sas_cons sa_var (sas_cons sa_var (sas_cons sa_var sas_nil)))) sas_nil)))) sas_nil))) sss_nil)) sss_nil)))) (sss_cons (ss_ret sa_var) sss_nil)))) : SSs _ _ m__law_looks)
theorem sc_losers_of : FnScope ["units", "bids", "winners", "person"] ["units", "bids"] (defScope (top 5)) := ⟨rfl, rfl, rfl, by decide +kernel, rfl, by decide +kernel, by decide +kernel⟩
theorem ok_losers_of (W : Fx K mg) : FnOk P w K mg base CX0 4 W.a_losers_of W.d_losers_of ["units", "bids"] (spD K 2 c_losers_of) :=
  fn_okD W.F_losers_of sc_losers_of rfl rfl fun cdv A outer s H E hr => (have hN := sc_losers_of.nd; (sss_cons (ss_set (sa_call (ok_winners_of W) (hr.mono (by decide)) W.g_winners_of W.F_winners_of.kp W.b_winners_of (sas_cons sa_var (sas_cons sa_var sas_nil))) hN) (sss_cons (ss_ret (sa_callTy call_tuple_ofF s_tuple W.n_tuple (by decide +kernel) (sas_cons (sa_lc rfl hN (si_range1 W.n_range (sa_callB call_lenAll s_len W.n_len (by decide +kernel) (sas_cons sa_var sas_nil))) (blk_of (own := [("person", 3)]) (by kernel_rfl)) rfl (fun _ _ _ _ _ => (sg_name hN)) (fun _ _ _ _ _ => (sts_one (st_cmp (op_notInAll (u65 hr)) s_notIn (by rfl) sa_var sa_var bl_in))) (fun _ _ _ _ _ => sa_var)) sas_nil))) sss_nil)) : SSs _ _ m_losers_of)
theorem sc__law_world : FnScope ["d", "many", "count", "said", "k", "tags"] ["d"] (defScope (top 19)) := ⟨rfl, rfl, rfl, by decide +kernel, rfl, by decide +kernel, by decide +kernel⟩
theorem ok__law_world (W : Fx K mg) : FnOk P w K mg base CX0 4 W.a__law_world W.d__law_world ["d"] (spD K 1 c__law_world) :=
  fn_okD W.F__law_world sc__law_world rfl rfl fun cdv A outer s H E hr => (have hN := sc__law_world.nd; (sss_cons (ss_set (sa_bin op_addAll s_add sa_int (sa_call (ok__law_draw W) (hr.mono (by decide)) W.g__law_draw W.F__law_draw.kp W.b__law_draw (sas_cons sa_var (sas_cons sa_int sas_nil)))) hN) (sss_cons (ss_set (sa_bin op_addAll s_add sa_int (sa_call (ok__law_draw W) (hr.mono (by decide)) W.g__law_draw W.F__law_draw.kp W.b__law_draw (sas_cons sa_var (sas_cons sa_int sas_nil)))) hN) (sss_cons (ss_set (sa_lst sas_nil) hN) (sss_cons (ss_for PassesOwn.never rfl (si_range1 W.n_range sa_var) (sg_name hN) (sss_cons (ss_expr (sa_meth PySem.F.slot_list_append PySem.F.type_list_append mt_append s_append (sas_cons (sa_call (ok__law_amount W) (hr.mono (by decide)) W.g__law_amount W.F__law_amount.kp W.b__law_amount (sas_cons sa_var (sas_cons sa_var sas_nil))) sas_nil))) sss_nil)) (sss_cons (ss_set (sa_lst sas_nil) hN) (sss_cons (ss_for PassesOwn.never rfl (si_range1 W.n_range sa_var) (sg_name hN) (sss_cons (ss_if (st_cmp (op_eqD (u64 hr)) s_eq (nomark _) (sa_call (ok__law_draw W) (hr.mono (by decide)) W.g__law_draw W.F__law_draw.kp W.b__law_draw (sas_cons sa_var (sas_cons sa_int sas_nil))) sa_int bl_eq) (sss_cons (ss_expr (sa_meth PySem.F.slot_list_append PySem.F.type_list_append mt_append s_append (sas_cons (sa_call (ok__law_amount W) (hr.mono (by decide)) W.g__law_amount W.F__law_amount.kp W.b__law_amount (sas_cons sa_var (sas_cons sa_var sas_nil))) sas_nil))) sss_nil) (sss_cons (ss_expr (sa_meth PySem.F.slot_list_append PySem.F.type_list_append mt_append s_append (sas_cons (sa_call (ok__law_clip W) (hr.mono (by decide)) W.g__law_clip W.F__law_clip.kp W.b__law_clip (sas_cons (sa_bin op_sub s_sub (sa_bin op_addAll s_add (sa_ix (u1 hr) sa_var sa_var) (sa_call (ok__law_draw W) (hr.mono (by decide)) W.g__law_draw W.F__law_draw.kp W.b__law_draw (sas_cons sa_var (sas_cons sa_int sas_nil)))) sa_int) sas_nil)) sas_nil))) sss_nil)) sss_nil)) (sss_cons (ss_ret (sa_tup (sas_cons sa_var (sas_cons (sa_callTy call_tuple_ofF s_tuple W.n_tuple (by decide +kernel) (sas_cons sa_var sas_nil)) (sas_cons (sa_callTy call_tuple_ofF s_tuple W.n_tuple (by decide +kernel) (sas_cons sa_var sas_nil)) sas_nil))))) sss_nil))))))) : SSs _ _ m__law_world)
theorem sc__law_posted_right : FnScope ["count", "tags", "said", "by_name", "told"] ["count", "tags", "said", "by_name"] (defScope (top 24)) := ⟨rfl, rfl, rfl, by decide +kernel, rfl, by decide +kernel, by decide +kernel⟩
theorem ok__law_posted_right (W : Fx K mg) : FnOk P w K mg base CX0 4 W.a__law_posted_right W.d__law_posted_right ["count", "tags", "said", "by_name"] (spD K 4 c__law_posted_right) :=
  fn_okD W.F__law_posted_right sc__law_posted_right rfl rfl fun cdv A outer s H E hr => (have hN := sc__law_posted_right.nd; (sss_cons (ss_if (st_truth sa_var) (sss_cons (ss_set (sa_callKw (ok_posted_of W) (hr.mono (by decide)) W.g_posted_of W.F_posted_of.kp W.kb_posted_of_bids_prices_units (sk_cons sa_var (sk_cons sa_var (sk_cons sa_var sk_nil)))) hN) sss_nil) (sss_cons (ss_set (sa_call (ok_posted_of W) (hr.mono (by decide)) W.g_posted_of W.F_posted_of.kp W.b_posted_of (sas_cons sa_var (sas_cons sa_var (sas_cons sa_var sas_nil)))) hN) sss_nil)) (sss_cons (ss_ret (sa_call (ok__law_is_due W) (hr.mono (by decide)) W.g__law_is_due W.F__law_is_due.kp W.b__law_is_due (sas_cons sa_var (sas_cons (sa_call (ok__law_posted W) (hr.mono (by decide)) W.g__law_posted W.F__law_posted.kp W.b__law_posted (sas_cons sa_var (sas_cons sa_var (sas_cons sa_var sas_nil)))) sas_nil)))) sss_nil)) : SSs _ _ m__law_posted_right)
theorem sc_sale_price : FnScope ["units", "bids", "price", "person"] ["units", "bids"] (defScope (top 6)) := ⟨rfl, rfl, rfl, by decide +kernel, rfl, by decide +kernel, by decide +kernel⟩
theorem ok_sale_price (W : Fx K mg) : FnOk P w K mg base CX0 5 W.a_sale_price W.d_sale_price ["units", "bids"] (spD K 2 c_sale_price) :=
  fn_okD W.F_sale_price sc_sale_price rfl rfl fun cdv A outer s H E hr => (have hN := sc_sale_price.nd; (sss_cons (ss_set sa_int hN) (sss_cons (ss_for PassesOwn.never rfl (si_seq (sa_call (ok_losers_of W) (hr.mono (by decide)) W.g_losers_of W.F_losers_of.kp W.b_losers_of (sas_cons sa_var (sas_cons sa_var sas_nil)))) (sg_name hN) (sss_cons (ss_set (sa_callB (call_maxAll rfl) s_max W.n_max (by decide +kernel) (sas_cons sa_var (sas_cons (sa_ix (u1 hr) sa_var sa_var) sas_nil))) hN) sss_nil)) (sss_cons (ss_ret sa_var) sss_nil))) : SSs _ _ m_sale_price)
theorem sc_sale_of : FnScope ["units", "bids", "who"] ["units", "bids"] (defScope (top 7)) := ⟨rfl, rfl, rfl, by decide +kernel, rfl, by decide +kernel, by decide +kernel⟩
theorem ok_sale_of (W : Fx K mg) : FnOk P w K mg base CX0 6 W.a_sale_of W.d_sale_of ["units", "bids"] (spD K 2 c_sale_of) :=
  fn_okD W.F_sale_of sc_sale_of rfl rfl fun cdv A outer s H E hr => (have hN := sc_sale_of.nd; (sss_cons (ss_set (sa_call (ok_winners_of W) (hr.mono (by decide)) W.g_winners_of W.F_winners_of.kp W.b_winners_of (sas_cons sa_var (sas_cons sa_var sas_nil))) hN) (sss_cons (ss_ret (sa_tup (sas_cons sa_var (sas_cons (sa_call (ok_same_price W) (hr.mono (by decide)) W.g_same_price W.F_same_price.kp W.b_same_price (sas_cons (sa_callB call_lenAll s_len W.n_len (by decide +kernel) (sas_cons sa_var sas_nil)) (sas_cons sa_var (sas_cons (sa_call (ok_sale_price W) (hr.mono (by decide)) W.g_sale_price W.F_sale_price.kp W.b_sale_price (sas_cons sa_var (sas_cons sa_var sas_nil))) sas_nil)))) sas_nil)))) sss_nil)) : SSs _ _ m_sale_of)
theorem sc__law_sale_right : FnScope ["count", "said", "by_name", "told"] ["count", "said", "by_name"] (defScope (top 23)) := ⟨rfl, rfl, rfl, by decide +kernel, rfl, by decide +kernel, by decide +kernel⟩
theorem ok__law_sale_right (W : Fx K mg) : FnOk P w K mg base CX0 7 W.a__law_sale_right W.d__law_sale_right ["count", "said", "by_name"] (spD K 3 c__law_sale_right) :=
  fn_okD W.F__law_sale_right sc__law_sale_right rfl rfl fun cdv A outer s H E hr => (have hN := sc__law_sale_right.nd; (sss_cons (ss_if (st_truth sa_var) (sss_cons (ss_set (sa_callKw (ok_sale_of W) (hr.mono (by decide)) W.g_sale_of W.F_sale_of.kp W.kb_sale_of_bids_units (sk_cons sa_var (sk_cons sa_var sk_nil))) hN) sss_nil) (sss_cons (ss_set (sa_call (ok_sale_of W) (hr.mono (by decide)) W.g_sale_of W.F_sale_of.kp W.b_sale_of (sas_cons sa_var (sas_cons sa_var sas_nil))) hN) sss_nil)) (sss_cons (ss_ret (sa_call (ok__law_is_due W) (hr.mono (by decide)) W.g__law_is_due W.F__law_is_due.kp W.b__law_is_due (sas_cons sa_var (sas_cons (sa_call (ok__law_sale W) (hr.mono (by decide)) W.g__law_sale W.F__law_sale.kp W.b__law_sale (sas_cons sa_var (sas_cons sa_var sas_nil))) sas_nil)))) sss_nil)) : SSs _ _ m__law_sale_right)
theorem sc_law : FnScope ["script", "d", "worlds", "k", "at", "by_name", "count", "said", "tags"] ["script"] (defScope (top 28)) := ⟨rfl, rfl, rfl, by decide +kernel, rfl, by decide +kernel, by decide +kernel⟩
theorem ok_law (W : Fx K mg) : FnOk P w K mg base CX0 8 W.a_law W.d_law ["script"] (spD K 1 c_law) :=
  fn_okD W.F_law sc_law rfl rfl fun cdv A outer s H E hr => (have hN := sc_law.nd; (sss_cons (ss_set (sa_call (ok__law_begin W) (hr.mono (by decide)) W.g__law_begin W.F__law_begin.kp W.b__law_begin (sas_cons sa_var sas_nil)) hN) (sss_cons (ss_setLc rfl hN (si_range1 W.n_range (sa_bin op_addAll s_add sa_int (sa_callB (call_minAll rfl) s_min W.n_min (by decide +kernel) (sas_cons sa_int (sas_cons (sa_bin op_fdiv s_div (sa_callB call_lenAll s_len W.n_len (by decide +kernel) (sas_cons sa_var sas_nil)) sa_int) sas_nil))))) (blk_of (own := [("k", 3)]) (by kernel_rfl)) rfl (fun _ _ _ _ _ => (sg_name hN)) (fun _ _ _ _ _ => sts_nil) (fun _ _ _ _ _ => (sa_call (ok__law_world W) (hr.mono (by decide)) W.g__law_world W.F__law_world.kp W.b__law_world (sas_cons sa_var sas_nil)))) (sss_cons (ss_expr (sa_meth PySem.F.slot_list_append PySem.F.type_list_append mt_append s_append (sas_cons (sa_ix (u1 hr) sa_var sa_int) sas_nil))) (sss_cons (ss_for PassesOwn.never rfl (si_range1 W.n_range (sa_callB call_lenAll s_len W.n_len (by decide +kernel) (sas_cons sa_var sas_nil))) (sg_name hN) (sss_cons (ss_set (sa_cmp (op_eqD (u64 hr)) s_eq (nomark _) sa_var (sa_bin op_sub s_sub (sa_callB call_lenAll s_len W.n_len (by decide +kernel) (sas_cons sa_var sas_nil)) sa_int)) hN) (sss_cons (ss_for PassesOwn.never rfl (si_seq (sa_call (ok__law_looks W) (hr.mono (by decide)) W.g__law_looks W.F__law_looks.kp W.b__law_looks (sas_cons (sa_ix (u1 hr) sa_var sa_var) sas_nil))) (sg_tup rfl (sgs_cons (sg_name hN) (sgs_cons (sg_name hN) (sgs_cons (sg_name hN) sgs_nil)))) (sss_cons (ss_if (sw_or (st_not (st_truth (sa_call (ok__law_sale_right W) (hr.mono (by decide)) W.g__law_sale_right W.F__law_sale_right.kp W.b__law_sale_right (sas_cons sa_var (sas_cons sa_var (sas_cons sa_var sas_nil)))))) (sw_or1 (st_not (st_truth (sa_call (ok__law_posted_right W) (hr.mono (by decide)) W.g__law_posted_right W.F__law_posted_right.kp W.b__law_posted_right (sas_cons sa_var (sas_cons sa_var (sas_cons sa_var (sas_cons sa_var sas_nil))))))))).st (sss_cons (ss_ret sa_bl) sss_nil) sss_nil) sss_nil)) sss_nil))) (sss_cons (ss_ret sa_bl) sss_nil))))) : SSs _ _ m_law)
end
def h_same_price : He.DefD := ⟨("same_price", none), "same_price", "same_price", defArgs (top 1), defBody (top 1), defScope (top 1), [], []⟩
def h_is_higher : He.DefD := ⟨("is_higher", none), "is_higher", "is_higher", defArgs (top 2), defBody (top 2), defScope (top 2), [], []⟩
def h_place_of : He.DefD := ⟨("place_of", none), "place_of", "place_of", defArgs (top 3), defBody (top 3), defScope (top 3), [], []⟩
def h_winners_of : He.DefD := ⟨("winners_of", none), "winners_of", "winners_of", defArgs (top 4), defBody (top 4), defScope (top 4), [], []⟩
def h_losers_of : He.DefD := ⟨("losers_of", none), "losers_of", "losers_of", defArgs (top 5), defBody (top 5), defScope (top 5), [], []⟩
def h_sale_price : He.DefD := ⟨("sale_price", none), "sale_price", "sale_price", defArgs (top 6), defBody (top 6), defScope (top 6), [], []⟩
def h_sale_of : He.DefD := ⟨("sale_of", none), "sale_of", "sale_of", defArgs (top 7), defBody (top 7), defScope (top 7), [], []⟩
def h_takers_of : He.DefD := ⟨("takers_of", none), "takers_of", "takers_of", defArgs (top 8), defBody (top 8), defScope (top 8), [], []⟩
def h_posted_of : He.DefD := ⟨("posted_of", none), "posted_of", "posted_of", defArgs (top 9), defBody (top 9), defScope (top 9), [], []⟩
def h__law_begin : He.DefD := ⟨("_law_begin", none), "_law_begin", "_law_begin", defArgs (top 11), defBody (top 11), defScope (top 11), [], []⟩
def h__law_draw : He.DefD := ⟨("_law_draw", none), "_law_draw", "_law_draw", defArgs (top 12), defBody (top 12), defScope (top 12), [], []⟩
def h__law_pick : He.DefD := ⟨("_law_pick", none), "_law_pick", "_law_pick", defArgs (top 13), defBody (top 13), defScope (top 13), [], []⟩
def h__law_is_int : He.DefD := ⟨("_law_is_int", none), "_law_is_int", "_law_is_int", defArgs (top 14), defBody (top 14), defScope (top 14), [], []⟩
def h__law_is_ints : He.DefD := ⟨("_law_is_ints", none), "_law_is_ints", "_law_is_ints", defArgs (top 15), defBody (top 15), defScope (top 15), [], []⟩
def h__law_is_pair : He.DefD := ⟨("_law_is_pair", none), "_law_is_pair", "_law_is_pair", defArgs (top 16), defBody (top 16), defScope (top 16), [], []⟩
def h__law_clip : He.DefD := ⟨("_law_clip", none), "_law_clip", "_law_clip", defArgs (top 17), defBody (top 17), defScope (top 17), [], []⟩
def h__law_amount : He.DefD := ⟨("_law_amount", none), "_law_amount", "_law_amount", defArgs (top 18), defBody (top 18), defScope (top 18), [], []⟩
def h__law_world : He.DefD := ⟨("_law_world", none), "_law_world", "_law_world", defArgs (top 19), defBody (top 19), defScope (top 19), [], []⟩
def h__law_sale : He.DefD := ⟨("_law_sale", none), "_law_sale", "_law_sale", defArgs (top 20), defBody (top 20), defScope (top 20), [], []⟩
def h__law_posted : He.DefD := ⟨("_law_posted", none), "_law_posted", "_law_posted", defArgs (top 21), defBody (top 21), defScope (top 21), [], []⟩
def h__law_is_due : He.DefD := ⟨("_law_is_due", none), "_law_is_due", "_law_is_due", defArgs (top 22), defBody (top 22), defScope (top 22), [], []⟩
def h__law_sale_right : He.DefD := ⟨("_law_sale_right", none), "_law_sale_right", "_law_sale_right", defArgs (top 23), defBody (top 23), defScope (top 23), [], []⟩
def h__law_posted_right : He.DefD := ⟨("_law_posted_right", none), "_law_posted_right", "_law_posted_right", defArgs (top 24), defBody (top 24), defScope (top 24), [], []⟩
def h__law_edge : He.DefD := ⟨("_law_edge", none), "_law_edge", "_law_edge", defArgs (top 25), defBody (top 25), defScope (top 25), [], []⟩
def h__law_with : He.DefD := ⟨("_law_with", none), "_law_with", "_law_with", defArgs (top 26), defBody (top 26), defScope (top 26), [], []⟩
def h__law_looks : He.DefD := ⟨("_law_looks", none), "_law_looks", "_law_looks", defArgs (top 27), defBody (top 27), defScope (top 27), [], []⟩
def h_law : He.DefD := ⟨("law", none), "law", "law", defArgs (top 28), defBody (top 28), defScope (top 28), [], []⟩
def fn : List He.DefD := [h_same_price, h_is_higher, h_place_of, h_winners_of, h_losers_of, h_sale_price, h_sale_of, h_takers_of, h_posted_of, h__law_begin, h__law_draw, h__law_pick, h__law_is_int, h__law_is_ints, h__law_is_pair, h__law_clip, h__law_amount, h__law_world, h__law_sale, h__law_posted, h__law_is_due, h__law_sale_right, h__law_posted_right, h__law_edge, h__law_with, h__law_looks, h_law]
def fa : List He.Fa := [.glo "same_price", .glo "is_higher", .glo "place_of", .glo "winners_of", .glo "losers_of", .glo "sale_price", .glo "sale_of", .glo "takers_of", .glo "posted_of", .glo "_law_begin", .glo "_law_draw", .glo "_law_pick", .glo "_law_is_int", .glo "_law_is_ints", .glo "_law_is_pair", .glo "_law_clip", .glo "_law_amount", .glo "_law_world", .glo "_law_sale", .glo "_law_posted", .glo "_law_is_due", .glo "_law_sale_right", .glo "_law_posted_right", .glo "_law_edge", .glo "_law_with", .glo "_law_looks", .glo "law", .free "abs", .free "all", .free "bool", .free "int", .free "isinstance", .free "len", .free "max", .free "min", .free "range", .free "sorted", .free "tuple"]
abbrev R : PySem.W.OpenRow := PySem.W.OpenLaw.row PySem.Challenge.rw_plainhearing_k21_sales_and_posted
abbrev hk : PySem.W.Hook := He.hookD 4 fa fn
def ob (s : PySem.W.SharedT) : He.AlD := He.obsDG 4 fa fn (HandSHeadRun.getT s)
theorem ob_eq (s : PySem.W.SharedT) : ob s = hk.obs s.abs := He.obsDG_eq (HandSHeadRun.getT_eq s)
theorem run (w : World) : HandSHeadRun.RunEq R (PySem.W.view R.prog [28]) hk ob 980 ["same_price", "is_higher", "place_of", "winners_of", "losers_of", "sale_price", "sale_of", "takers_of", "posted_of", "_law_begin", "_law_draw", "_law_pick", "_law_is_int", "_law_is_ints", "_law_is_pair", "_law_clip", "_law_amount", "_law_world", "_law_sale", "_law_posted", "_law_is_due", "_law_sale_right", "_law_posted_right", "_law_edge", "_law_with", "_law_looks"] w := by
  intro os
  kernel_rfl
theorem facts {P : Program} {w : World} {K : PySem.W.Frag} {h : Heap} {mg : Str → Option Value} {f : Addr} (X : K.In h) (G : h.Ns mainGlobals mg) (hfa : mg ("law" : Str) = some (.ref f)) (c : He.SaysD fa fn K) :
    ∃ fd : FuncData, (∀ (s : Shared) (v : Value), BindsTo s fd ⟨[v], []⟩ [("script", v)]) ∧ ∀ base : Heap, K.In base → base.Ns mainGlobals mg → FnOk P w K mg base CX0 8 f fd ["script"] (spD K 1 c_law) := by
  obtain ⟨d_same_price, F_same_price⟩ := c.def_ 0 (d := h_same_price) rfl
  obtain ⟨d_is_higher, F_is_higher⟩ := c.def_ 1 (d := h_is_higher) rfl
  obtain ⟨d_place_of, F_place_of⟩ := c.def_ 2 (d := h_place_of) rfl
  obtain ⟨d_winners_of, F_winners_of⟩ := c.def_ 3 (d := h_winners_of) rfl
  obtain ⟨d_losers_of, F_losers_of⟩ := c.def_ 4 (d := h_losers_of) rfl
  obtain ⟨d_sale_price, F_sale_price⟩ := c.def_ 5 (d := h_sale_price) rfl
  obtain ⟨d_sale_of, F_sale_of⟩ := c.def_ 6 (d := h_sale_of) rfl
  obtain ⟨d_takers_of, F_takers_of⟩ := c.def_ 7 (d := h_takers_of) rfl
  obtain ⟨d_posted_of, F_posted_of⟩ := c.def_ 8 (d := h_posted_of) rfl
  obtain ⟨d__law_begin, F__law_begin⟩ := c.def_ 9 (d := h__law_begin) rfl
  obtain ⟨d__law_draw, F__law_draw⟩ := c.def_ 10 (d := h__law_draw) rfl
  obtain ⟨d__law_pick, F__law_pick⟩ := c.def_ 11 (d := h__law_pick) rfl
  obtain ⟨d__law_is_int, F__law_is_int⟩ := c.def_ 12 (d := h__law_is_int) rfl
  obtain ⟨d__law_is_ints, F__law_is_ints⟩ := c.def_ 13 (d := h__law_is_ints) rfl
  obtain ⟨d__law_is_pair, F__law_is_pair⟩ := c.def_ 14 (d := h__law_is_pair) rfl
  obtain ⟨d__law_clip, F__law_clip⟩ := c.def_ 15 (d := h__law_clip) rfl
  obtain ⟨d__law_amount, F__law_amount⟩ := c.def_ 16 (d := h__law_amount) rfl
  obtain ⟨d__law_world, F__law_world⟩ := c.def_ 17 (d := h__law_world) rfl
  obtain ⟨d__law_sale, F__law_sale⟩ := c.def_ 18 (d := h__law_sale) rfl
  obtain ⟨d__law_posted, F__law_posted⟩ := c.def_ 19 (d := h__law_posted) rfl
  obtain ⟨d__law_is_due, F__law_is_due⟩ := c.def_ 20 (d := h__law_is_due) rfl
  obtain ⟨d__law_sale_right, F__law_sale_right⟩ := c.def_ 21 (d := h__law_sale_right) rfl
  obtain ⟨d__law_posted_right, F__law_posted_right⟩ := c.def_ 22 (d := h__law_posted_right) rfl
  obtain ⟨d__law_edge, F__law_edge⟩ := c.def_ 23 (d := h__law_edge) rfl
  obtain ⟨d__law_with, F__law_with⟩ := c.def_ 24 (d := h__law_with) rfl
  obtain ⟨d__law_looks, F__law_looks⟩ := c.def_ 25 (d := h__law_looks) rfl
  obtain ⟨d_law, F_law⟩ := c.def_ 26 (d := h_law) rfl
  have e := hfa.symm.trans (He.glo_ok X G (c.fact 26 (f := .glo "law") rfl))
  cases e
  have b := FunD.bindsA (ps := ["script"]) F_law fun _ _ _ _ _ _ us hl => match us, hl with | [_], _ => rfl
  refine ⟨d_law, fun s v => b s [v] rfl, fun base _ _ => ?_⟩
  exact ok_law {
    a_same_price := _, d_same_price := d_same_price, F_same_price := F_same_price, g_same_price := He.glo_ok X G (c.fact 0 (f := .glo "same_price") rfl), b_same_price := (FunD.bindsN F_same_price fun _ _ _ _ _ _ us hl => match us, hl with | [_, _, _], _ => rfl),
    a_is_higher := _, d_is_higher := d_is_higher, F_is_higher := F_is_higher, g_is_higher := He.glo_ok X G (c.fact 1 (f := .glo "is_higher") rfl), b_is_higher := (FunD.bindsN F_is_higher fun _ _ _ _ _ _ us hl => match us, hl with | [_, _, _], _ => rfl),
    a_place_of := _, d_place_of := d_place_of, F_place_of := F_place_of, g_place_of := He.glo_ok X G (c.fact 2 (f := .glo "place_of") rfl), b_place_of := (FunD.bindsN F_place_of fun _ _ _ _ _ _ us hl => match us, hl with | [_, _], _ => rfl),
    a_winners_of := _, d_winners_of := d_winners_of, F_winners_of := F_winners_of, g_winners_of := He.glo_ok X G (c.fact 3 (f := .glo "winners_of") rfl), b_winners_of := (FunD.bindsN F_winners_of fun _ _ _ _ _ _ us hl => match us, hl with | [_, _], _ => rfl),
    a_losers_of := _, d_losers_of := d_losers_of, F_losers_of := F_losers_of, g_losers_of := He.glo_ok X G (c.fact 4 (f := .glo "losers_of") rfl), b_losers_of := (FunD.bindsN F_losers_of fun _ _ _ _ _ _ us hl => match us, hl with | [_, _], _ => rfl),
    a_sale_price := _, d_sale_price := d_sale_price, F_sale_price := F_sale_price, g_sale_price := He.glo_ok X G (c.fact 5 (f := .glo "sale_price") rfl), b_sale_price := (FunD.bindsN F_sale_price fun _ _ _ _ _ _ us hl => match us, hl with | [_, _], _ => rfl),
    a_sale_of := _, d_sale_of := d_sale_of, F_sale_of := F_sale_of, g_sale_of := He.glo_ok X G (c.fact 6 (f := .glo "sale_of") rfl), b_sale_of := (FunD.bindsN F_sale_of fun _ _ _ _ _ _ us hl => match us, hl with | [_, _], _ => rfl),
    a_takers_of := _, d_takers_of := d_takers_of, F_takers_of := F_takers_of, g_takers_of := He.glo_ok X G (c.fact 7 (f := .glo "takers_of") rfl), b_takers_of := (FunD.bindsN F_takers_of fun _ _ _ _ _ _ us hl => match us, hl with | [_, _, _], _ => rfl),
    a_posted_of := _, d_posted_of := d_posted_of, F_posted_of := F_posted_of, g_posted_of := He.glo_ok X G (c.fact 8 (f := .glo "posted_of") rfl), b_posted_of := (FunD.bindsN F_posted_of fun _ _ _ _ _ _ us hl => match us, hl with | [_, _, _], _ => rfl),
    a__law_begin := _, d__law_begin := d__law_begin, F__law_begin := F__law_begin, g__law_begin := He.glo_ok X G (c.fact 9 (f := .glo "_law_begin") rfl), b__law_begin := (FunD.bindsN F__law_begin fun _ _ _ _ _ _ us hl => match us, hl with | [_], _ => rfl),
    a__law_draw := _, d__law_draw := d__law_draw, F__law_draw := F__law_draw, g__law_draw := He.glo_ok X G (c.fact 10 (f := .glo "_law_draw") rfl), b__law_draw := (FunD.bindsN F__law_draw fun _ _ _ _ _ _ us hl => match us, hl with | [_, _], _ => rfl),
    a__law_pick := _, d__law_pick := d__law_pick, F__law_pick := F__law_pick, g__law_pick := He.glo_ok X G (c.fact 11 (f := .glo "_law_pick") rfl), b__law_pick := (FunD.bindsN F__law_pick fun _ _ _ _ _ _ us hl => match us, hl with | [_, _], _ => rfl),
    a__law_is_int := _, d__law_is_int := d__law_is_int, F__law_is_int := F__law_is_int, g__law_is_int := He.glo_ok X G (c.fact 12 (f := .glo "_law_is_int") rfl), b__law_is_int := (FunD.bindsN F__law_is_int fun _ _ _ _ _ _ us hl => match us, hl with | [_], _ => rfl),
    a__law_is_ints := _, d__law_is_ints := d__law_is_ints, F__law_is_ints := F__law_is_ints, g__law_is_ints := He.glo_ok X G (c.fact 13 (f := .glo "_law_is_ints") rfl), b__law_is_ints := (FunD.bindsN F__law_is_ints fun _ _ _ _ _ _ us hl => match us, hl with | [_], _ => rfl),
    a__law_is_pair := _, d__law_is_pair := d__law_is_pair, F__law_is_pair := F__law_is_pair, g__law_is_pair := He.glo_ok X G (c.fact 14 (f := .glo "_law_is_pair") rfl), b__law_is_pair := (FunD.bindsN F__law_is_pair fun _ _ _ _ _ _ us hl => match us, hl with | [_], _ => rfl),
    a__law_clip := _, d__law_clip := d__law_clip, F__law_clip := F__law_clip, g__law_clip := He.glo_ok X G (c.fact 15 (f := .glo "_law_clip") rfl), b__law_clip := (FunD.bindsN F__law_clip fun _ _ _ _ _ _ us hl => match us, hl with | [_], _ => rfl),
    a__law_amount := _, d__law_amount := d__law_amount, F__law_amount := F__law_amount, g__law_amount := He.glo_ok X G (c.fact 16 (f := .glo "_law_amount") rfl), b__law_amount := (FunD.bindsN F__law_amount fun _ _ _ _ _ _ us hl => match us, hl with | [_, _], _ => rfl),
    a__law_world := _, d__law_world := d__law_world, F__law_world := F__law_world, g__law_world := He.glo_ok X G (c.fact 17 (f := .glo "_law_world") rfl), b__law_world := (FunD.bindsN F__law_world fun _ _ _ _ _ _ us hl => match us, hl with | [_], _ => rfl),
    a__law_sale := _, d__law_sale := d__law_sale, F__law_sale := F__law_sale, g__law_sale := He.glo_ok X G (c.fact 18 (f := .glo "_law_sale") rfl), b__law_sale := (FunD.bindsN F__law_sale fun _ _ _ _ _ _ us hl => match us, hl with | [_, _], _ => rfl),
    a__law_posted := _, d__law_posted := d__law_posted, F__law_posted := F__law_posted, g__law_posted := He.glo_ok X G (c.fact 19 (f := .glo "_law_posted") rfl), b__law_posted := (FunD.bindsN F__law_posted fun _ _ _ _ _ _ us hl => match us, hl with | [_, _, _], _ => rfl),
    a__law_is_due := _, d__law_is_due := d__law_is_due, F__law_is_due := F__law_is_due, g__law_is_due := He.glo_ok X G (c.fact 20 (f := .glo "_law_is_due") rfl), b__law_is_due := (FunD.bindsN F__law_is_due fun _ _ _ _ _ _ us hl => match us, hl with | [_, _], _ => rfl),
    a__law_sale_right := _, d__law_sale_right := d__law_sale_right, F__law_sale_right := F__law_sale_right, g__law_sale_right := He.glo_ok X G (c.fact 21 (f := .glo "_law_sale_right") rfl), b__law_sale_right := (FunD.bindsN F__law_sale_right fun _ _ _ _ _ _ us hl => match us, hl with | [_, _, _], _ => rfl),
    a__law_posted_right := _, d__law_posted_right := d__law_posted_right, F__law_posted_right := F__law_posted_right, g__law_posted_right := He.glo_ok X G (c.fact 22 (f := .glo "_law_posted_right") rfl), b__law_posted_right := (FunD.bindsN F__law_posted_right fun _ _ _ _ _ _ us hl => match us, hl with | [_, _, _, _], _ => rfl),
    a__law_edge := _, d__law_edge := d__law_edge, F__law_edge := F__law_edge, g__law_edge := He.glo_ok X G (c.fact 23 (f := .glo "_law_edge") rfl), b__law_edge := (FunD.bindsN F__law_edge fun _ _ _ _ _ _ us hl => match us, hl with | [_, _, _], _ => rfl),
    a__law_with := _, d__law_with := d__law_with, F__law_with := F__law_with, g__law_with := He.glo_ok X G (c.fact 24 (f := .glo "_law_with") rfl), b__law_with := (FunD.bindsN F__law_with fun _ _ _ _ _ _ us hl => match us, hl with | [_, _, _], _ => rfl),
    a__law_looks := _, d__law_looks := d__law_looks, F__law_looks := F__law_looks, g__law_looks := He.glo_ok X G (c.fact 25 (f := .glo "_law_looks") rfl), b__law_looks := (FunD.bindsN F__law_looks fun _ _ _ _ _ _ us hl => match us, hl with | [_], _ => rfl),
    a_law := _, d_law := d_law, F_law := F_law, g_law := He.glo_ok X G (c.fact 26 (f := .glo "law") rfl), b_law := (FunD.bindsN F_law fun _ _ _ _ _ _ us hl => match us, hl with | [_], _ => rfl),
    kb_posted_of_bids_prices_units := (kb_of F_posted_of (by decide) fun _ _ _ _ _ _ ws hl => match ws, hl with | [_, _, _], _ => rfl),
    kb_sale_of_bids_units := (kb_of F_sale_of (by decide) fun _ _ _ _ _ _ ws hl => match ws, hl with | [_, _], _ => rfl),
    n_abs := He.free_ok X G (c.fact 27 (f := .free "abs") rfl),
    n_all := He.free_ok X G (c.fact 28 (f := .free "all") rfl),
    n_bool := He.free_ok X G (c.fact 29 (f := .free "bool") rfl),
    n_int := He.free_ok X G (c.fact 30 (f := .free "int") rfl),
    n_isinstance := He.free_ok X G (c.fact 31 (f := .free "isinstance") rfl),
    n_len := He.free_ok X G (c.fact 32 (f := .free "len") rfl),
    n_max := He.free_ok X G (c.fact 33 (f := .free "max") rfl),
    n_min := He.free_ok X G (c.fact 34 (f := .free "min") rfl),
    n_range := He.free_ok X G (c.fact 35 (f := .free "range") rfl),
    n_sorted := He.free_ok X G (c.fact 36 (f := .free "sorted") rfl),
    n_tuple := He.free_ok X G (c.fact 37 (f := .free "tuple") rfl) }
theorem end_ (pure_law : ∀ ns : List Int, ns.length ≤ 63 → ∃ fs, c_law [⟨.scr (ns.map D.int), 0⟩] = .ok (Cell.fz (.bl true), fs)) : PySem.Challenge.rw_plainhearing_k21_sales_and_posted.Holds := by
  open PySem.W PySem.Calls in
  w_on; o_law
  refine HandSHeadRun.head_any (r := OpenLaw.row PySem.Challenge.rw_plainhearing_k21_sales_and_posted) (q := view (OpenLaw.row PySem.Challenge.rw_plainhearing_k21_sales_and_posted).prog [28]) (H := hk) (ob := ob) (M := 980) (loose := ["same_price", "is_higher", "place_of", "winners_of", "losers_of", "sale_price", "sale_of", "takers_of", "posted_of", "_law_begin", "_law_draw", "_law_pick", "_law_is_int", "_law_is_ints", "_law_is_pair", "_law_clip", "_law_amount", "_law_world", "_law_sale", "_law_posted", "_law_is_due", "_law_sale_right", "_law_posted_right", "_law_edge", "_law_with", "_law_looks"]) (d := HandSHeadRun.topDef (OpenLaw.row PySem.Challenge.rw_plainhearing_k21_sales_and_posted).prog 28) (kwd := []) ob_eq
    (by kernel_rfl) (fun s => by kernel_rfl) run (by kernel_rfl) (by kernel_rfl) (by kernel_rfl) (by rfl) (by first | assumption | decide +kernel) (by decide +kernel) ⟨rfl, rfl, rfl, rfl, rfl, by decide +kernel⟩ ?hw ?hc
  case hw => w_witness2
  case hc =>
    refine L2.walk_ofE (l := PySem.Challenge.rw_plainhearing_k21_sales_and_posted) (n := 63) (k := 8) (x := "script") (CX := L2.CX0) rfl (by decide) (by kernel_rfl) ⟨rfl, by decide, by decide⟩ ?F (fun _ _ _ _ z => z)
    intro w mg fa h Y G hmg0
    obtain ⟨K, KX, c⟩ := Y
    have hmg : mg ("law" : PySem.Str) = some (.ref fa) := by
      have e : (HandSHeadRun.topDef (OpenLaw.row PySem.Challenge.rw_plainhearing_k21_sales_and_posted).prog 28).name = ("law" : PySem.Str) := by kernel_rfl
      rw [← e]
      exact hmg0
    obtain ⟨fd, hb, hF⟩ := facts (P := (PySem.Challenge.rw_plainhearing_k21_sales_and_posted).prog) (w := w) KX G hmg c
    exact ⟨K, fd, spD K 1 c_law, KX, hb, fun H a ns hl _ hS => (pure_law ns hl).elim fun fs h => law_sp hS h, hF⟩
end P_k21

/-! sales: the plain mathematics, no program in sight -/
namespace Sale
open Z PySem
section
variable {α : Type} {lt : α → α → Bool} (asym : ∀ a b, lt a b = true → lt b a = false) (irr : ∀ a, lt a a = false)
include asym irr
theorem rank_take : ∀ {l : List α} {u : Nat}, l.Pairwise (fun a b => lt a b = true) → l.filter (fun x => decide (l.countP (fun y => lt y x) < u)) = l.take u
  | [], u, _ => by simp
  | a :: r, 0, _ => by simp
  | a :: r, u + 1, h => by
    obtain ⟨h1, h2⟩ := List.pairwise_cons.mp h
    have ha : (a :: r).countP (fun y => lt y a) = 0 := by
      rw [List.countP_eq_zero]
      intro x hx
      rcases List.mem_cons.mp hx with rfl | hx
      · rw [irr]; simp
      · rw [asym _ _ (h1 x hx)]; simp
    rw [List.filter_cons_of_pos (by rw [ha]; simp), List.take_succ_cons]
    congr 1
    rw [← rank_take (u := u) h2]
    apply List.filter_congr
    intro x hx
    have e : (a :: r).countP (fun y => lt y x) = r.countP (fun y => lt y x) + 1 := List.countP_cons_of_pos (p := fun y => lt y x) (h1 x hx)
    rw [e]
    simp
theorem rank_at : ∀ {l : List α} (h : l.Pairwise (fun a b => lt a b = true)) {i : Nat} (hi : i < l.length), l.countP (fun y => lt y l[i]) = i
  | [], _, _, hi => by simp at hi
  | a :: r, h, 0, _ => by
    obtain ⟨h1, h2⟩ := List.pairwise_cons.mp h
    rw [List.countP_eq_zero]
    intro x hx
    rcases List.mem_cons.mp hx with rfl | hx
    · simp [irr]
    · simp [asym _ _ (h1 x hx)]
  | a :: r, h, i + 1, hi => by
    obtain ⟨h1, h2⟩ := List.pairwise_cons.mp h
    have hi' : i < r.length := by simpa using hi
    have := rank_at h2 hi'
    simp only [List.getElem_cons_succ]
    have e : (a :: r).countP (fun y => lt y r[i]) = r.countP (fun y => lt y r[i]) + 1 := List.countP_cons_of_pos (p := fun y => lt y r[i]) (h1 _ (List.getElem_mem hi'))
    rw [e, this]
end
def bd (bs : List Int) (p : Nat) : Int := bs.getD p 0
/-- the pair by which the law sorts -/
def key (bs : List Int) (k : Nat) : Int × Int := (0 - bd bs k, (k : Int))
/-- p stands ahead of q -/
def higher (bs : List Int) (p q : Nat) : Bool := if bd bs p ≠ bd bs q then decide (bd bs q < bd bs p) else decide (p < q)
def place (bs : List Int) (p : Nat) : Nat := (List.range bs.length).countP fun q => decide (q ≠ p) && higher bs q p
def winners (u : Nat) (bs : List Int) : List Nat := (List.range bs.length).filter fun p => decide (place bs p < u)
theorem higher_key {bs : List Int} {p q : Nat} : SrtO.lexB (key bs p) (key bs q) = (decide (p ≠ q) && higher bs p q) := by
  rw [Bool.eq_iff_iff, SrtO.lexB_iff, Bool.and_eq_true, decide_eq_true_eq]
  unfold higher key
  simp only
  split
  · rename_i h
    rw [decide_eq_true_eq]
    constructor
    · intro z
      refine ⟨fun e => ?_, by omega⟩
      subst e
      omega
    · intro z; omega
  · rename_i h
    rw [decide_eq_true_eq]
    have h : bd bs p = bd bs q := Classical.not_not.mp h
    rw [h]
    omega
def keys (bs : List Int) : List (Int × Int) := (List.range bs.length).map (key bs)
theorem place_key {bs : List Int} {p : Nat} : (keys bs).countP (fun y => SrtO.lexB y (key bs p)) = place bs p := by
  unfold keys place
  rw [List.countP_map]
  apply List.countP_congr
  intro q _
  show SrtO.lexB (key bs q) (key bs p) = true ↔ _
  rw [higher_key]
theorem lex_asym (a b : Int × Int) (h : SrtO.lexB a b = true) : SrtO.lexB b a = false := by
  rw [SrtO.lexB_no]
  rw [SrtO.lexB_iff] at h
  omega
theorem lex_irr (a : Int × Int) : SrtO.lexB a a = false := by rw [SrtO.lexB_no]; omega
theorem keys_nodup {bs : List Int} : (keys bs).Nodup := by
  unfold keys
  rw [List.Nodup, List.pairwise_map]
  have := List.nodup_range (n := bs.length)
  exact List.Pairwise.imp (fun {a b} h e => h (by
    have : (a : Int) = (b : Int) := congrArg Prod.snd e
    omega)) this
theorem sorted_strict {bs : List Int} : (psort (keys bs)).Pairwise fun a b => SrtO.lexB a b = true := by
  have h1 := psort_sorted (ps := keys bs)
  have h2 : (psort (keys bs)).Nodup := psort_perm.nodup_iff.mpr keys_nodup
  exact (h1.and h2).imp fun {a b} ⟨h, n⟩ => by
    rw [pLe_iff] at h
    rw [SrtO.lexB_iff]
    have : ¬ (a.1 = b.1 ∧ a.2 = b.2) := fun e => n (Prod.ext e.1 e.2)
    omega
/-- the first u of the sort are those whose place is below u -/
theorem take_winners {bs : List Int} {u : Nat} : (((psort (keys bs)).take u).map (·.2)).Perm ((winners u bs).map fun (p : Nat) => (p : Int)) := by
  rw [← rank_take lex_asym lex_irr (u := u) sorted_strict]
  have hp := psort_perm (ps := keys bs)
  have e : (fun x => decide ((psort (keys bs)).countP (fun y => SrtO.lexB y x) < u)) = fun x => decide ((keys bs).countP (fun y => SrtO.lexB y x) < u) := by
    funext x
    rw [hp.countP_eq]
  rw [e]
  refine ((hp.filter _).map _).trans ?_
  have e2 : (keys bs).filter (fun x => decide ((keys bs).countP (fun y => SrtO.lexB y x) < u)) = (winners u bs).map (key bs) := by
    conv => lhs; arg 2; unfold keys
    rw [List.filter_map]
    congr 1
    apply List.filter_congr
    intro p _
    show decide ((keys bs).countP (fun y => SrtO.lexB y (key bs p)) < u) = _
    rw [place_key]
  rw [e2, List.map_map]
  exact List.Perm.refl _
theorem keys_len {bs : List Int} : (psort (keys bs)).length = bs.length := by
  rw [psort_perm.length_eq]
  unfold keys
  simp
/-- where p stands in the sort -/
theorem key_at {bs : List Int} {p : Nat} (hp : p < bs.length) : ∃ (h : place bs p < (psort (keys bs)).length), (psort (keys bs))[place bs p] = key bs p := by
  have hm : key bs p ∈ psort (keys bs) := psort_perm.mem_iff.mpr (List.mem_map.mpr ⟨p, List.mem_range.mpr hp, rfl⟩)
  obtain ⟨j, hj, e⟩ := List.getElem_of_mem hm
  have h1 := rank_at lex_asym lex_irr sorted_strict hj
  rw [e, psort_perm.countP_eq, place_key] at h1
  subst h1
  exact ⟨hj, e⟩
theorem place_lt {bs : List Int} {p : Nat} (hp : p < bs.length) : place bs p < bs.length := by
  obtain ⟨h, _⟩ := key_at hp
  rw [keys_len] at h
  exact h
theorem at_key {bs : List Int} {j : Nat} (hj : j < (psort (keys bs)).length) : ∃ p, p < bs.length ∧ (psort (keys bs))[j] = key bs p ∧ place bs p = j := by
  have hm := psort_perm.mem_iff.mp (List.getElem_mem hj)
  obtain ⟨p, hp, e⟩ := List.mem_map.mp hm
  have hp := List.mem_range.mp hp
  refine ⟨p, hp, e.symm, ?_⟩
  have h1 := rank_at lex_asym lex_irr sorted_strict hj
  rw [← e, psort_perm.countP_eq, place_key] at h1
  exact h1
def losers (u : Nat) (bs : List Int) : List Nat := (List.range bs.length).filter fun p => decide (p ∉ winners u bs)
theorem mem_losers {u : Nat} {bs : List Int} {p : Nat} : p ∈ losers u bs ↔ p < bs.length ∧ u ≤ place bs p := by
  unfold losers winners
  rw [List.mem_filter, List.mem_range, decide_eq_true_eq, List.mem_filter, List.mem_range, decide_eq_true_eq]
  constructor
  · rintro ⟨h1, h2⟩
    exact ⟨h1, Nat.le_of_not_lt fun z => h2 ⟨h1, z⟩⟩
  · rintro ⟨h1, h2⟩
    exact ⟨h1, fun z => by omega⟩
/-- the greatest bid of those who lose -/
def topOf (bs : List Int) : Int → List Nat → Int
  | m, [] => m
  | m, p :: r => topOf bs (if bd bs p > m then bd bs p else m) r
theorem topOf_ge {bs : List Int} : ∀ {l : List Nat} {m : Int}, m ≤ topOf bs m l ∧ (∀ p ∈ l, bd bs p ≤ topOf bs m l) ∧ (topOf bs m l = m ∨ ∃ p ∈ l, topOf bs m l = bd bs p)
  | [], m => ⟨Int.le_refl _, fun _ h => by simp at h, .inl rfl⟩
  | q :: r, m => by
    obtain ⟨h1, h2, h3⟩ := topOf_ge (bs := bs) (l := r) (m := if bd bs q > m then bd bs q else m)
    unfold topOf
    have hm : m ≤ (if bd bs q > m then bd bs q else m) ∧ bd bs q ≤ (if bd bs q > m then bd bs q else m) := by split <;> omega
    refine ⟨by omega, fun p hp => ?_, ?_⟩
    · rcases List.mem_cons.mp hp with rfl | hp
      · omega
      · exact h2 p hp
    · rcases h3 with h3 | ⟨p, hp, e⟩
      · rw [h3]
        split
        · exact .inr ⟨q, List.mem_cons_self .., rfl⟩
        · exact .inl rfl
      · exact .inr ⟨p, List.mem_cons_of_mem _ hp, e⟩
def salePrice (u : Nat) (bs : List Int) : Int := topOf bs 0 (losers u bs)
theorem price_none {u : Nat} {bs : List Int} (h : bs.length ≤ u) : salePrice u bs = 0 := by
  have : losers u bs = [] := by
    rw [List.eq_nil_iff_forall_not_mem]
    intro p hp
    obtain ⟨h1, h2⟩ := mem_losers.mp hp
    have := place_lt h1
    omega
  unfold salePrice
  rw [this]
  rfl
theorem price_at {u : Nat} {bs : List Int} (hb : ∀ p, 0 ≤ bd bs p) (h : u < (psort (keys bs)).length) : salePrice u bs = 0 - ((psort (keys bs))[u]).1 := by
  obtain ⟨k, hk, e, hpl⟩ := at_key h
  have e1 : 0 - ((psort (keys bs))[u]).1 = bd bs k := by rw [e]; unfold key; simp only; omega
  rw [e1]
  obtain ⟨h1, h2, h3⟩ := topOf_ge (bs := bs) (l := losers u bs) (m := 0)
  have hkl : k ∈ losers u bs := mem_losers.mpr ⟨hk, by omega⟩
  apply Int.le_antisymm
  · rcases h3 with h3 | ⟨p, hp, h3⟩
    · show topOf bs 0 (losers u bs) ≤ _
      rw [h3]; exact hb k
    · show topOf bs 0 (losers u bs) ≤ _
      rw [h3]
      obtain ⟨q1, q2⟩ := mem_losers.mp hp
      obtain ⟨q3, q4⟩ := key_at q1
      rcases Nat.lt_or_ge u (place bs p) with z | z
      · have := List.pairwise_iff_getElem.mp sorted_strict u (place bs p) h q3 z
        rw [q4, e, SrtO.lexB_iff] at this
        unfold key at this
        simp only at this
        omega
      · have z : place bs p = u := by omega
        have : key bs p = key bs k := by
          rw [← q4, ← e]
          simp only [z]
        have := congrArg Prod.fst this
        unfold key at this
        simp only at this
        omega
  · exact h2 k hkl
end Sale

namespace P_k21
open Z PySem PySem.Spec PyProof.Rows L2 Sale
@[simp] theorem eq_draw : c__law_draw = c_draw := rfl
@[simp] theorem eq_begin : c__law_begin = c_begin := rfl
@[simp] theorem eq_pick : c__law_pick = c_pick := rfl
@[simp] theorem eq_is_int : c__law_is_int = c_is_int := rfl
@[simp] theorem eq_is_ints : c__law_is_ints = c_is_ints := rfl
@[simp] theorem f_neI {i j : Int} {k k' : Nat} : fNe [⟨.int i, k⟩, ⟨.int j, k'⟩] = .ok ⟨.bl (!decide (i = j)), 0⟩ := by
  unfold fNe
  have e : D.eqv (.int i) (.int j) = decide (i = j) := by
    show (i == j) = _
    by_cases q : i = j <;> simp [q]
  simp only [D.okd, Bool.and_true, if_true, e]
  rfl
theorem nL_len {ps : List Nat} : (nL ps).length = ps.length := by unfold nL; simp
theorem iL_len {ps : List Int} : (iL ps).length = ps.length := by unfold iL; simp
theorem len_nD {ps : List Nat} {k : Nat} : fLen [⟨nD ps, k⟩] = .ok ⟨.int ps.length, 0⟩ := by show R.ok (Cell.fz (.int (nL ps).length)) = _; rw [nL_len]; rfl
theorem len_iD {ps : List Int} {k : Nat} : fLen [⟨iD ps, k⟩] = .ok ⟨.int ps.length, 0⟩ := by show R.ok (Cell.fz (.int (iL ps).length)) = _; rw [iL_len]; rfl
theorem ix_bd {bs : List Int} {p k k' : Nat} (h : p < bs.length) : fIx [⟨iD bs, k⟩, ⟨.int (p : Int), k'⟩] = .ok ⟨.int (bd bs p), 0⟩ := ix_iD h
/-! ### the program's side -/
theorem is_higher_ok {bs : List Int} {p q : Nat} (hp : p < bs.length) (hq : q < bs.length) : c_is_higher [⟨iD bs, 0⟩, ⟨.int (p : Int), 0⟩, ⟨.int (q : Int), 0⟩] = .ok (⟨.bl (higher bs p q), 0⟩, [⟨iD bs, 0⟩, ⟨.int (p : Int), 0⟩, ⟨.int (q : Int), 0⟩]) := by
  by_cases h : bd bs p = bd bs q
  · simp -implicitDefEqProofs [c_is_higher, m_is_higher, runDef_ap, aVar_ap, ix_bd hp, ix_bd hq, h, higher]
  · simp -implicitDefEqProofs [c_is_higher, m_is_higher, runDef_ap, aVar_ap, ix_bd hp, ix_bd hq, h, higher]
theorem place_of_ok {bs : List Int} {p : Nat} (hp : p < bs.length) (hl : bs.length ≤ 1000) : c_place_of [⟨iD bs, 0⟩, ⟨.int (p : Int), 0⟩] = .ok (⟨.int (place bs p : Nat), 0⟩, [⟨iD bs, 0⟩, ⟨.int (p : Int), 0⟩]) := by
  obtain ⟨ρ', e, hI⟩ := loopF_go (it := ⟨nL (List.range bs.length), none⟩) (g := gN 3) (body := (mSeq (mIf (mAndT (mTest (mPrim fNe [(aVar 3), (aVar 1)])) (mTest (mCall c_is_higher [(aVar 0), (aVar 3), (aVar 1)]))) (mSeq (mSet 2 (mPrim fAdd [(aVar 2), (aC (.int 1))])) mNext) mNext) mNext)) (L := [])
    (I := fun r ρ => ∃ qs n x, r = nL qs ∧ (∀ q ∈ qs, q < bs.length) ∧ ρ = [some ⟨iD bs, 0⟩, some ⟨.int (p : Int), 0⟩, some ⟨.int (n : Nat), 0⟩, x] ∧ n + qs.countP (fun q => decide (q ≠ p) && higher bs q p) = place bs p)
    (fun d r ρ ⟨qs, n, x, h1, h2, h3, h4⟩ => by
      subst h3
      cases qs with
      | nil => cases h1
      | cons q qs =>
        cases h1
        have hq := h2 q (List.mem_cons_self ..)
        have h2' : ∀ q ∈ qs, q < bs.length := fun q hq => h2 q (List.mem_cons_of_mem _ hq)
        by_cases e1 : q = p
        · subst e1
          simp -implicitDefEqProofs [aVar_ap, chkOk]
          refine ⟨qs, rfl, h2', n, rfl, ?_⟩
          rw [← h4, List.countP_cons_of_neg (by simp)]
          simp
        · have e1' : ¬ (q : Int) = (p : Int) := by omega
          cases e2 : higher bs q p with
          | true =>
            simp -implicitDefEqProofs [aVar_ap, e1, e1', is_higher_ok hq hp, e2, chkOk]
            refine ⟨qs, rfl, h2', n + 1, by omega, ?_⟩
            rw [← h4, List.countP_cons_of_pos (by simp [e1, e2])]
            simp
            omega
          | false =>
            simp -implicitDefEqProofs [aVar_ap, e1, e1', is_higher_ok hq hp, e2, chkOk]
            refine ⟨qs, rfl, h2', n, rfl, ?_⟩
            rw [← h4, List.countP_cons_of_neg (by simp [e1, e2])]
            simp)
    (ds := nL (List.range bs.length)) (ρ := [some ⟨iD bs, 0⟩, some ⟨.int (p : Int), 0⟩, some ⟨.int (0 : Nat), 0⟩, none]) ⟨List.range bs.length, 0, none, rfl, fun q hq => by simpa using hq, rfl, by unfold place; simp⟩
  obtain ⟨qs, n, x, h1, _, rfl, h4⟩ := hI
  have : qs = [] := by cases qs with | nil => rfl | cons _ _ => cases h1
  subst this
  have h4 : n = place bs p := by simpa using h4
  subst h4
  rw [show ((0 : Nat) : Int) = 0 from rfl] at e
  simp -implicitDefEqProofs [c_place_of, m_place_of, runDef_ap, aVar_ap, len_iD, rgB_nat (show bs.length ≤ 16777216 by omega), rgD_nL, e]
end P_k21

namespace P_k21
open Z PySem PySem.Spec PyProof.Rows L2 Sale
/-- a comprehension with a condition over numbers -/
theorem comp_filter {g : MG} {tt : MT} {me : AE} {vs : List Nat} {ρ0 : Z.Env} {f : Nat → Bool} {h : Nat → D} {it : ItD} (hit : it.chk = none) {ps : List Nat} (hp : ∀ p ∈ ps, ∃ ρa s ρc ρd k, g (.int (p : Int)) [] (wipeE ρ0 vs) = .ok ρa ∧ tt ρa = .ok (f p, ρa) ∧ me ρa = .ok (s, ρc) ∧ esc s ρc = .ok (⟨h p, k⟩, ρd) ∧ wipeE ρd vs = wipeE ρ0 vs ∧ wipeE ρa vs = wipeE ρ0 vs) :
    loopC it g tt me vs (nL ps) (wipeE ρ0 vs) = .ok ((ps.filter f).map h, wipeE ρ0 vs) := by
  have ec : ∀ ρ, chkOk it ρ = true := fun ρ => by unfold chkOk; rw [hit]
  induction ps with
  | nil => rfl
  | cons p r ih =>
    obtain ⟨ρa, s, ρc, ρd, k, e1, e2, e3, e4, e5, e6⟩ := hp p (List.mem_cons_self ..)
    have ih := ih fun x hx => hp x (List.mem_cons_of_mem _ hx)
    have en : nL (p :: r) = .int (p : Int) :: nL r := rfl
    rw [en]
    unfold loopC
    rw [e1]
    simp only [R.ok_bind]
    rw [e2]
    simp only [R.ok_bind]
    cases hf : f p with
    | true =>
      simp only [if_true]
      rw [e3]
      simp only [R.ok_bind]
      rw [e4]
      simp only [R.ok_bind]
      rw [e5, if_pos (ec _), ih, List.filter_cons_of_pos hf]
      rfl
    | false =>
      simp only [Bool.false_eq_true, if_false]
      rw [e6, if_pos (ec _), ih, List.filter_cons_of_neg (by rw [hf]; simp)]
theorem winners_of_ok {u : Nat} {bs : List Int} (hl : bs.length ≤ 1000) : c_winners_of [⟨.int (u : Int), 0⟩, ⟨iD bs, 0⟩] = .ok (⟨nD (winners u bs), 0⟩, [⟨.int (u : Int), 0⟩, ⟨iD bs, 0⟩]) := by
  have e := comp_filter (g := gN 2) (tt := (mTest (mPrim fLt [(mCall c_place_of [(aVar 1), (aVar 2)]), (aVar 0)]))) (me := aVar 2) (vs := [2]) (ρ0 := [some ⟨.int (u : Int), 0⟩, some ⟨iD bs, 0⟩, none]) (it := ⟨nL (List.range bs.length), none⟩) (f := fun p => decide (place bs p < u)) (h := fun p => .int (p : Int)) rfl (ps := List.range bs.length) (fun p hp => by
    have hp := List.mem_range.mp hp
    refine ⟨[some ⟨.int (u : Int), 0⟩, some ⟨iD bs, 0⟩, some ⟨.int (p : Int), 0⟩], .s 2, [some ⟨.int (u : Int), 0⟩, some ⟨iD bs, 0⟩, some ⟨.int (p : Int), 0⟩], [some ⟨.int (u : Int), 0⟩, some ⟨iD bs, 0⟩, some ⟨.int (p : Int), 0⟩], 0, ?_, ?_, ?_, ?_, ?_, ?_⟩
    · simp [wipeE]
    · simp -implicitDefEqProofs [aVar_ap, place_of_ok hp hl]
    · simp [aVar_ap]
    · simp
    · simp [wipeE]
    · simp [wipeE])
  have e : loopC ⟨nL (List.range bs.length), none⟩ (gN 2) (mTest (mPrim fLt [(mCall c_place_of [(aVar 1), (aVar 2)]), (aVar 0)])) (aVar 2) [2] (nL (List.range bs.length)) [some ⟨.int (u : Int), 0⟩, some ⟨iD bs, 0⟩, none] = .ok (nL (winners u bs), [some ⟨.int (u : Int), 0⟩, some ⟨iD bs, 0⟩, none]) := e
  have hst : (nL (List.range bs.length)).length ≤ 16777216 := by rw [nL_len]; simp; omega
  have en : ∀ l, D.tup (nL l) = nD l := fun _ => rfl
  simp -implicitDefEqProofs [c_winners_of, m_winners_of, runDef_ap, aVar_ap, len_iD, rgB_nat (show bs.length ≤ 16777216 by omega), rgD_nL, ownOk, hst, chkOk, wipeE, e, restore, en]
theorem losers_of_ok {u : Nat} {bs : List Int} (hl : bs.length ≤ 1000) : c_losers_of [⟨.int (u : Int), 0⟩, ⟨iD bs, 0⟩] = .ok (⟨nD (losers u bs), 0⟩, [⟨.int (u : Int), 0⟩, ⟨iD bs, 0⟩]) := by
  have e := comp_filter (g := gN 3) (tt := (mTest (mPrim (fIn true) [(aVar 3), (aVar 2)]))) (me := aVar 3) (vs := [3]) (ρ0 := [some ⟨.int (u : Int), 0⟩, some ⟨iD bs, 0⟩, some ⟨nD (winners u bs), 0⟩, none]) (it := ⟨nL (List.range bs.length), none⟩) (f := fun p => decide (p ∉ winners u bs)) (h := fun p => .int (p : Int)) rfl (ps := List.range bs.length) (fun p hp => by
    refine ⟨[some ⟨.int (u : Int), 0⟩, some ⟨iD bs, 0⟩, some ⟨nD (winners u bs), 0⟩, some ⟨.int (p : Int), 0⟩], .s 3, [some ⟨.int (u : Int), 0⟩, some ⟨iD bs, 0⟩, some ⟨nD (winners u bs), 0⟩, some ⟨.int (p : Int), 0⟩], [some ⟨.int (u : Int), 0⟩, some ⟨iD bs, 0⟩, some ⟨nD (winners u bs), 0⟩, some ⟨.int (p : Int), 0⟩], 0, ?_, ?_, ?_, ?_, ?_, ?_⟩
    · simp [wipeE]
    · simp -implicitDefEqProofs [aVar_ap, notIn_nD]
    · simp [aVar_ap]
    · simp
    · simp [wipeE]
    · simp [wipeE])
  have e : loopC ⟨nL (List.range bs.length), none⟩ (gN 3) (mTest (mPrim (fIn true) [(aVar 3), (aVar 2)])) (aVar 3) [3] (nL (List.range bs.length)) [some ⟨.int (u : Int), 0⟩, some ⟨iD bs, 0⟩, some ⟨nD (winners u bs), 0⟩, none] = .ok (nL (losers u bs), [some ⟨.int (u : Int), 0⟩, some ⟨iD bs, 0⟩, some ⟨nD (winners u bs), 0⟩, none]) := e
  have hst : (nL (List.range bs.length)).length ≤ 16777216 := by rw [nL_len]; simp; omega
  have en : ∀ l, D.tup (nL l) = nD l := fun _ => rfl
  simp -implicitDefEqProofs [c_losers_of, m_losers_of, runDef_ap, aVar_ap, winners_of_ok hl, len_iD, rgB_nat (show bs.length ≤ 16777216 by omega), rgD_nL, ownOk, hst, chkOk, wipeE, e, restore, en]
theorem f_max2 {i j : Int} {k k' : Nat} : fMax [⟨.int i, k⟩, ⟨.int j, k'⟩] = .ok ⟨.int (if j > i then j else i), 0⟩ := rfl
theorem sale_price_ok {u : Nat} {bs : List Int} (hl : bs.length ≤ 1000) : c_sale_price [⟨.int (u : Int), 0⟩, ⟨iD bs, 0⟩] = .ok (⟨.int (salePrice u bs), 0⟩, [⟨.int (u : Int), 0⟩, ⟨iD bs, 0⟩]) := by
  obtain ⟨ρ', e, hI⟩ := loopF_go (it := ⟨nL (losers u bs), none⟩) (g := gN 3) (body := (mSeq (mSet 2 (mPrim fMax [(aVar 2), (mPrim fIx [(aVar 1), (aVar 3)])])) mNext)) (L := [])
    (I := fun r ρ => ∃ qs m x, r = nL qs ∧ (∀ q ∈ qs, q < bs.length) ∧ ρ = [some ⟨.int (u : Int), 0⟩, some ⟨iD bs, 0⟩, some ⟨.int m, 0⟩, x] ∧ topOf bs m qs = salePrice u bs)
    (fun d r ρ ⟨qs, m, x, h1, h2, h3, h4⟩ => by
      subst h3
      cases qs with
      | nil => cases h1
      | cons q qs =>
        cases h1
        simp -implicitDefEqProofs [aVar_ap, ix_bd (h2 q (List.mem_cons_self ..)), f_max2, chkOk]
        exact ⟨qs, rfl, fun q hq => h2 q (List.mem_cons_of_mem _ hq), h4⟩)
    (ds := nL (losers u bs)) (ρ := [some ⟨.int (u : Int), 0⟩, some ⟨iD bs, 0⟩, some ⟨.int 0, 0⟩, none]) ⟨losers u bs, 0, none, rfl, fun q hq => (mem_losers.mp hq).1, rfl, rfl⟩
  obtain ⟨qs, m, x, h1, _, rfl, h4⟩ := hI
  have : qs = [] := by cases qs with | nil => rfl | cons _ _ => cases h1
  subst this
  have h4 : m = salePrice u bs := h4
  subst h4
  have hit : itemsOf (nD (losers u bs)) = some (nL (losers u bs)) := rfl
  simp -implicitDefEqProofs [c_sale_price, m_sale_price, runDef_ap, aVar_ap, losers_of_ok hl, hit, e]
end P_k21

namespace P_k21
open Z PySem PySem.Spec PyProof.Rows L2 Sale
def prices (n : Nat) (S : List Nat) (price : Int) : List Int := (List.range n).map fun p => if p ∈ S then price else 0
theorem same_price_ok {n : Nat} {S : List Nat} {price : Int} (hl : n ≤ 1000) : c_same_price [⟨.int (n : Int), 0⟩, ⟨nD S, 0⟩, ⟨.int price, 0⟩] = .ok (⟨iD (prices n S price), 0⟩, [⟨.int (n : Int), 0⟩, ⟨nD S, 0⟩, ⟨.int price, 0⟩]) := by
  obtain ⟨ρ', e, hI⟩ := loopF_go (it := ⟨nL (List.range n), none⟩) (g := gN 4) (body := (mSeq (mIf (mTest (mPrim (fIn false) [(aVar 4), (aVar 1)])) (mSeq (mExpr (mMeth 3 fAppend [(aVar 2)])) mNext) (mSeq (mExpr (mMeth 3 fAppend [(aC (.int 0))])) mNext)) mNext)) (L := [])
    (I := fun r ρ => ∃ qs acc x, r = nL qs ∧ ρ = [some ⟨.int (n : Int), 0⟩, some ⟨nD S, 0⟩, some ⟨.int price, 0⟩, some ⟨.lst (iL acc), 1⟩, x] ∧ acc ++ (qs.map fun p => if p ∈ S then price else 0) = prices n S price ∧ acc.length + qs.length = n)
    (fun d r ρ ⟨qs, acc, x, h1, h2, h3, h4⟩ => by
      subst h2
      cases qs with
      | nil => cases h1
      | cons q qs =>
        cases h1
        simp only [List.length_cons] at h4
        have ha : (iL acc).length ≤ 10000 := by rw [iL_len]; omega
        by_cases hq : q ∈ S
        · simp -implicitDefEqProofs [aVar_ap, in_nD, hq, f_app ha, chkOk]
          refine ⟨qs, rfl, acc ++ [price], by simp [iL], ?_, by simp; omega⟩
          rw [← h3]; simp [hq]
        · simp -implicitDefEqProofs [aVar_ap, in_nD, hq, f_app ha, chkOk]
          refine ⟨qs, rfl, acc ++ [0], by simp [iL], ?_, by simp; omega⟩
          rw [← h3]; simp [hq])
    (ds := nL (List.range n)) (ρ := [some ⟨.int (n : Int), 0⟩, some ⟨nD S, 0⟩, some ⟨.int price, 0⟩, some ⟨.lst [], 1⟩, none]) ⟨List.range n, [], none, rfl, rfl, rfl, by simp⟩
  obtain ⟨qs, acc, x, h1, rfl, h3, h4⟩ := hI
  have : qs = [] := by cases qs with | nil => rfl | cons _ _ => cases h1
  subst this
  have h3 : acc = prices n S price := by simpa using h3
  subst h3
  have en : ∀ l, D.tup (iL l) = iD l := fun _ => rfl
  simp -implicitDefEqProofs [c_same_price, m_same_price, runDef_ap, aVar_ap, rgB_nat (show n ≤ 16777216 by omega), rgD_nL, e, en]
def saleD (u : Nat) (bs : List Int) : D := .tup [nD (winners u bs), iD (prices bs.length (winners u bs) (salePrice u bs))]
theorem sale_of_ok {u : Nat} {bs : List Int} (hl : bs.length ≤ 1000) : c_sale_of [⟨.int (u : Int), 0⟩, ⟨iD bs, 0⟩] = .ok (⟨saleD u bs, 0⟩, [⟨.int (u : Int), 0⟩, ⟨iD bs, 0⟩]) := by
  simp -implicitDefEqProofs [c_sale_of, m_sale_of, runDef_ap, aVar_ap, winners_of_ok hl, sale_price_ok hl, len_iD, same_price_ok hl, saleD]
/-! ### the law's sale -/
theorem asInts_keys {bs : List Int} (h : 0 < bs.length) : asInts ((keys bs).map pairD) = none := by
  obtain ⟨n, hn⟩ : ∃ n, bs.length = n + 1 := ⟨bs.length - 1, by omega⟩
  unfold keys
  rw [hn, List.range_succ_eq_map]
  rfl
theorem sort_keys {bs : List Int} (h : 0 < bs.length) : fSort [⟨.lst ((keys bs).map pairD), 1⟩] = .ok ⟨.lst ((psort (keys bs)).map pairD), 1⟩ := by
  unfold fSort
  simp only [asInts_keys h, asPairs_map]
  simp
theorem sort_ints {ns : List Int} : fSort [⟨.lst (iL ns), 1⟩] = .ok ⟨.lst (iL (isort ns)), 1⟩ := by
  unfold fSort iL
  simp only [asInts_map]
  simp
theorem winners_sorted {u : Nat} {bs : List Int} : isort (((psort (keys bs)).take u).map (·.2)) = (winners u bs).map fun (p : Nat) => (p : Int) := by
  symm
  refine isort_uniq take_winners.symm ?_
  rw [List.pairwise_map]
  unfold winners
  refine List.Pairwise.imp (fun {a b} h => ?_) ((List.pairwise_lt_range (n := bs.length)).filter _)
  have h : a < b := h
  omega
theorem keys_loop {bs : List Int} {c0 c2 c4 c5 c6 : Option Cell} : loopC ⟨nL (List.range bs.length), none⟩ (gN 3) mYes (mTup [(mPrim fSub [(aC (.int 0)), (mPrim fIx [(aVar 1), (aVar 3)])]), (aVar 3)]) [3] (nL (List.range bs.length)) [c0, some ⟨iD bs, 0⟩, c2, none, c4, c5, c6] = .ok ((keys bs).map pairD, [c0, some ⟨iD bs, 0⟩, c2, none, c4, c5, c6]) := by
  have e := comp_filter (g := gN 3) (tt := mYes) (me := (mTup [(mPrim fSub [(aC (.int 0)), (mPrim fIx [(aVar 1), (aVar 3)])]), (aVar 3)])) (vs := [3]) (ρ0 := [c0, some ⟨iD bs, 0⟩, c2, none, c4, c5, c6]) (it := ⟨nL (List.range bs.length), none⟩) (f := fun _ => true) (h := fun p => pairD (key bs p)) rfl (ps := List.range bs.length) (fun p hp => by
    have hp := List.mem_range.mp hp
    refine ⟨[c0, some ⟨iD bs, 0⟩, c2, some ⟨.int (p : Int), 0⟩, c4, c5, c6], .v ⟨pairD (key bs p), 0⟩, [c0, some ⟨iD bs, 0⟩, c2, some ⟨.int (p : Int), 0⟩, c4, c5, c6], [c0, some ⟨iD bs, 0⟩, c2, some ⟨.int (p : Int), 0⟩, c4, c5, c6], 0, ?_, ?_, ?_, ?_, ?_, ?_⟩
    · simp [wipeE]
    · simp
    · simp -implicitDefEqProofs [aVar_ap, ix_bd hp, Z.pairD, key]
    · simp
    · simp [wipeE]
    · simp [wipeE])
  have e2 : ((List.range bs.length).filter fun _ => true).map (fun p => Z.pairD (key bs p)) = (keys bs).map Z.pairD := by
    rw [List.filter_eq_self.mpr (fun _ _ => rfl)]
    unfold keys
    rw [List.map_map]
    rfl
  rw [e2] at e
  exact e
end P_k21

namespace P_k21
open Z PySem PySem.Spec PyProof.Rows L2 Sale
theorem in_iLst {is : List Int} {i : Int} {k k' : Nat} : fIn false [⟨.int i, k⟩, ⟨.lst (iL is), k'⟩] = .ok ⟨.bl (decide (i ∈ is)), 0⟩ := by
  unfold fIn inB
  have h1 : (D.int i).okd 60 = true := rfl
  have h2 : (D.lst (iL is)).okd 60 = true := okd_iL
  simp only [h1, h2, Bool.and_true, if_true, R.ok_bind, any_iL]
  simp
theorem cut_pairs {l : List (Int × Int)} {u : Nat} : Z.cutD (l.map Z.pairD) none (some (u : Int)) = (l.take u).map Z.pairD := by
  unfold Z.cutD
  rw [HT.sIx_none, HT.sIx_nat, List.length_map, List.drop_zero, Nat.sub_zero, ← List.map_take]
  congr 1
  rw [Nat.min_def]
  split
  · rfl
  · rw [List.take_of_length_le (Nat.le_refl _), List.take_of_length_le (by omega)]
theorem snd_loop {l : List (Int × Int)} {c0 c1 c2 c3 c4 c6 : Option Cell} : loopC ⟨l.map Z.pairD, none⟩ (gN 5) mYes (mPrim fIx [(aVar 5), (aC (.int 1))]) [5] (l.map Z.pairD) [c0, c1, c2, c3, c4, none, c6] = .ok (iL (l.map (·.2)), [c0, c1, c2, c3, c4, none, c6]) := by
  have e := comp_map (g := gN 5) (me := (mPrim fIx [(aVar 5), (aC (.int 1))])) (vs := [5]) (ρ0 := [c0, c1, c2, c3, c4, none, c6]) (it := ⟨l.map Z.pairD, none⟩) (f := fun d => match d with | .tup [_, b] => b | d => d) rfl (ds := l.map Z.pairD) (fun d hd => by
    obtain ⟨p, hp, rfl⟩ := List.mem_map.mp hd
    refine ⟨[c0, c1, c2, c3, c4, some ⟨Z.pairD p, 0⟩, c6], .v ⟨.int p.2, 0⟩, [c0, c1, c2, c3, c4, some ⟨Z.pairD p, 0⟩, c6], [c0, c1, c2, c3, c4, some ⟨Z.pairD p, 0⟩, c6], 0, ?_, ?_, rfl, ?_⟩
    · simp [wipeE]
    · have : fIx [⟨Z.pairD p, 0⟩, ⟨.int 1, 0⟩] = .ok ⟨.int p.2, 0⟩ := p_ixT ix_1
      simp -implicitDefEqProofs [aVar_ap, this]
    · simp [wipeE])
  have e2 : ∀ l : List (Int × Int), List.map (fun d => match d with | .tup [_, b] => b | d => d) (l.map Z.pairD) = iL (l.map (·.2)) := fun l => by
    unfold iL
    rw [List.map_map, List.map_map]
    rfl
  rw [e2] at e
  exact e
theorem price_loop {n : Nat} {S : List Nat} {price : Int} {c0 c1 c2 c5 : Option Cell} : loopC ⟨nL (List.range n), none⟩ (gN 3) mYes (mPrim fMul [(aVar 6), (mPrim fInt [(mPrim (fIn false) [(aVar 3), (aVar 4)])])]) [3] (nL (List.range n)) [c0, c1, c2, none, some ⟨.lst (iL (S.map fun (p : Nat) => (p : Int))), 1⟩, c5, some ⟨.int price, 0⟩] = .ok (iL (prices n S price), [c0, c1, c2, none, some ⟨.lst (iL (S.map fun (p : Nat) => (p : Int))), 1⟩, c5, some ⟨.int price, 0⟩]) := by
  have e := comp_filter (g := gN 3) (tt := mYes) (me := (mPrim fMul [(aVar 6), (mPrim fInt [(mPrim (fIn false) [(aVar 3), (aVar 4)])])])) (vs := [3]) (ρ0 := [c0, c1, c2, none, some ⟨.lst (iL (S.map fun (p : Nat) => (p : Int))), 1⟩, c5, some ⟨.int price, 0⟩]) (it := ⟨nL (List.range n), none⟩) (f := fun _ => true) (h := fun p => .int (if p ∈ S then price else 0)) rfl (ps := List.range n) (fun p hp => by
    have em : ((p : Int) ∈ S.map fun (p : Nat) => (p : Int)) ↔ p ∈ S := by
      rw [List.mem_map]
      exact ⟨fun ⟨a, ha, h⟩ => by rw [← Int.ofNat_inj.mp h]; exact ha, fun h => ⟨p, h, rfl⟩⟩
    have hin := in_iLst (is := S.map fun (p : Nat) => (p : Int)) (i := (p : Int)) (k := 0) (k' := 1)
    simp only [em] at hin
    generalize hc : (⟨.lst (iL (S.map fun (p : Nat) => (p : Int))), 1⟩ : Cell) = c at *
    refine ⟨[c0, c1, c2, some ⟨.int (p : Int), 0⟩, some c, c5, some ⟨.int price, 0⟩], .v ⟨.int (if p ∈ S then price else 0), 0⟩, [c0, c1, c2, some ⟨.int (p : Int), 0⟩, some c, c5, some ⟨.int price, 0⟩], [c0, c1, c2, some ⟨.int (p : Int), 0⟩, some c, c5, some ⟨.int price, 0⟩], 0, ?_, ?_, ?_, ?_, ?_, ?_⟩
    · simp [wipeE]
    · simp
    · by_cases hq : p ∈ S
      · simp -implicitDefEqProofs [aVar_ap, hin, hq, p_mulR]
      · simp -implicitDefEqProofs [aVar_ap, hin, hq, p_mulR]
    · simp
    · simp [wipeE]
    · simp [wipeE])
  have e2 : ((List.range n).filter fun _ => true).map (fun p => D.int (if p ∈ S then price else 0)) = iL (prices n S price) := by
    rw [List.filter_eq_self.mpr (fun _ _ => rfl)]
    unfold prices iL
    rw [List.map_map]
    rfl
  rw [e2] at e
  exact e
end P_k21

namespace P_k21
open Z PySem PySem.Spec PyProof.Rows L2 Sale
theorem law_sale_ok {u : Nat} {bs : List Int} (h0 : 0 < bs.length) (hl : bs.length ≤ 1000) (hb : ∀ p, 0 ≤ bd bs p) : c__law_sale [⟨.int (u : Int), 0⟩, ⟨iD bs, 0⟩] = .ok (⟨saleD u bs, 0⟩, [⟨.int (u : Int), 0⟩, ⟨iD bs, 0⟩]) := by
  have hst : (nL (List.range bs.length)).length ≤ 16777216 := by rw [nL_len]; simp; omega
  have hkl := keys_len (bs := bs)
  have hsl : (((psort (keys bs)).take u).map Z.pairD).length ≤ 16777216 := by rw [List.length_map, List.length_take]; omega
  have hit : itemsOf (.lst (((psort (keys bs)).take u).map Z.pairD)) = some (((psort (keys bs)).take u).map Z.pairD) := rfl
  have hpl : ((psort (keys bs)).map Z.pairD).length = bs.length := by rw [List.length_map, hkl]
  have e1 := sort_keys h0
  have e2 := sort_ints (ns := ((psort (keys bs)).take u).map (·.2))
  rw [winners_sorted] at e2
  have hfl : fLen [⟨.lst ((psort (keys bs)).map Z.pairD), 1⟩] = .ok ⟨.int bs.length, 0⟩ := by rw [len_lst, hpl]; rfl
  have ecut := cut_pairs (l := psort (keys bs)) (u := u)
  have esnd := fun c0 c1 c2 c3 c4 c6 => snd_loop (l := (psort (keys bs)).take u) (c0 := c0) (c1 := c1) (c2 := c2) (c3 := c3) (c4 := c4) (c6 := c6)
  have epr := fun price c0 c1 c2 c5 => price_loop (n := bs.length) (S := winners u bs) (price := price) (c0 := c0) (c1 := c1) (c2 := c2) (c5 := c5)
  have en : D.tup (iL ((winners u bs).map fun (p : Nat) => (p : Int))) = nD (winners u bs) := by unfold nD; rw [nL_iL]
  have en2 : ∀ l, D.tup (iL l) = iD l := fun _ => rfl
  have ekl := fun c0 c2 c4 c5 c6 => keys_loop (bs := bs) (c0 := c0) (c2 := c2) (c4 := c4) (c5 := c5) (c6 := c6)
  by_cases hu : u < bs.length
  · have hux : u < (psort (keys bs)).length := by omega
    have hpr := price_at hb hux
    have hx : fIx [⟨.lst ((psort (keys bs)).map Z.pairD), 1⟩, ⟨.int (u : Int), 0⟩] = .ok ⟨Z.pairD ((psort (keys bs))[u]), 0⟩ := by
      refine p_ixL (by decide) ((atI_nat (n := u) (by rw [hpl]; exact hu)).trans ?_)
      rw [List.getElem_map]
    have hx0 : fIx [⟨Z.pairD ((psort (keys bs))[u]), 0⟩, ⟨.int 0, 0⟩] = .ok ⟨.int ((psort (keys bs))[u]).1, 0⟩ := p_ixT ix_0
    generalize ((psort (keys bs)).map Z.pairD) = lp at *
    generalize (((psort (keys bs)).take u).map Z.pairD) = lt at *
    generalize (iL (((psort (keys bs)).take u).map (·.2))) = l2 at *
    generalize hW : (iL ((winners u bs).map fun (p : Nat) => (p : Int))) = lw at *
    generalize Z.pairD ((psort (keys bs))[u]) = pu at *
    rw [saleD, hpr]
    simp -implicitDefEqProofs [c__law_sale, m__law_sale, runDef_ap, aVar_ap, len_iD, rgB_nat (show bs.length ≤ 16777216 by omega), rgD_nL, ownOk, hst, chkOk, wipeE, ekl, restore, e1, mSl, evO, fSl, ecut, hit, hsl, esnd, e2, hfl, hu, hx, hx0, epr, en, en2]
  · have hpr := price_none (u := u) (bs := bs) (by omega)
    generalize ((psort (keys bs)).map Z.pairD) = lp at *
    generalize (((psort (keys bs)).take u).map Z.pairD) = lt at *
    generalize (iL (((psort (keys bs)).take u).map (·.2))) = l2 at *
    generalize hW : (iL ((winners u bs).map fun (p : Nat) => (p : Int))) = lw at *
    rw [saleD, hpr]
    simp -implicitDefEqProofs [c__law_sale, m__law_sale, runDef_ap, aVar_ap, len_iD, rgB_nat (show bs.length ≤ 16777216 by omega), rgD_nL, ownOk, hst, chkOk, wipeE, ekl, restore, e1, mSl, evO, fSl, ecut, hit, hsl, esnd, e2, hfl, hu, epr, en, en2]
end P_k21

namespace P_k21
open Z PySem PySem.Spec PyProof.Rows L2 Sale
/-! ### posted prices -/
def willing (ts bs : List Int) (p : Nat) : Bool := decide (bd ts p ≤ bd bs p)
def takers (u : Nat) (ts bs : List Int) : List Nat := ((List.range bs.length).filter (willing ts bs)).take u
theorem takers_of_ok {u : Nat} {ts bs : List Int} (ht : ts.length = bs.length) (hl : bs.length ≤ 1000) : c_takers_of [⟨.int (u : Int), 0⟩, ⟨iD ts, 0⟩, ⟨iD bs, 0⟩] = .ok (⟨nD (takers u ts bs), 0⟩, [⟨.int (u : Int), 0⟩, ⟨iD ts, 0⟩, ⟨iD bs, 0⟩]) := by
  obtain ⟨ρ', e, hI⟩ := loopF_go (it := ⟨nL (List.range bs.length), none⟩) (g := gN 5) (body := (mSeq (mIf (mAndT (mTest (mPrim fGt [(aVar 3), (aC (.int 0))])) (mTest (mPrim fGe [(mPrim fIx [(aVar 2), (aVar 5)]), (mPrim fIx [(aVar 1), (aVar 5)])]))) (mSeq (mExpr (mMeth 4 fAppend [(aVar 5)])) (mSeq (mSet 3 (mPrim fSub [(aVar 3), (aC (.int 1))])) mNext)) mNext) mNext)) (L := [])
    (I := fun r ρ => ∃ qs m acc x, r = nL qs ∧ (∀ q ∈ qs, q < bs.length) ∧ ρ = [some ⟨.int (u : Int), 0⟩, some ⟨iD ts, 0⟩, some ⟨iD bs, 0⟩, some ⟨.int (m : Nat), 0⟩, some ⟨.lst (nL acc), 1⟩, x] ∧ acc ++ (qs.filter (willing ts bs)).take m = takers u ts bs ∧ acc.length + qs.length ≤ bs.length)
    (fun d r ρ ⟨qs, m, acc, x, h1, h2, h3, h4, h5⟩ => by
      subst h3
      cases qs with
      | nil => cases h1
      | cons q qs =>
        cases h1
        simp only [List.length_cons] at h5
        have hq := h2 q (List.mem_cons_self ..)
        have h2' : ∀ q ∈ qs, q < bs.length := fun q hq => h2 q (List.mem_cons_of_mem _ hq)
        have hqt : q < ts.length := by omega
        have ha : (nL acc).length ≤ 10000 := by rw [nL_len]; omega
        cases m with
        | zero =>
          rw [show ((0 : Nat) : Int) = 0 from rfl]
          simp -implicitDefEqProofs [aVar_ap, chkOk]
          exact ⟨qs, rfl, h2', 0, acc, ⟨rfl, rfl⟩, by rw [← h4]; simp, by omega⟩
        | succ m =>
          have hm : (0 : Int) < ((m + 1 : Nat) : Int) := by omega
          have hm2 : ((m + 1 : Nat) : Int) - 1 = (m : Int) := by omega
          generalize hmm : ((m + 1 : Nat) : Int) = mm at *
          by_cases hw : bd ts q ≤ bd bs q
          · simp -implicitDefEqProofs [aVar_ap, hm, ix_bd hq, ix_bd hqt, hw, f_app ha, hm2, chkOk]
            refine ⟨qs, rfl, h2', m, acc ++ [q], ⟨rfl, by simp [nL]⟩, ?_, by simp; omega⟩
            rw [← h4, List.filter_cons_of_pos (by simpa [willing] using hw), List.take_succ_cons]
            simp
          · simp -implicitDefEqProofs [aVar_ap, hm, ix_bd hq, ix_bd hqt, hw, chkOk]
            refine ⟨qs, rfl, h2', m + 1, acc, ⟨hmm.symm, rfl⟩, ?_, by omega⟩
            rw [← h4, List.filter_cons_of_neg (by simpa [willing] using hw)])
    (ds := nL (List.range bs.length)) (ρ := [some ⟨.int (u : Int), 0⟩, some ⟨iD ts, 0⟩, some ⟨iD bs, 0⟩, some ⟨.int (u : Int), 0⟩, some ⟨.lst [], 1⟩, none]) ⟨List.range bs.length, u, [], none, rfl, fun q hq => by simpa using hq, rfl, rfl, by simp⟩
  obtain ⟨qs, m, acc, x, h1, _, rfl, h4, _⟩ := hI
  have : qs = [] := by cases qs with | nil => rfl | cons _ _ => cases h1
  subst this
  have h4 : acc = takers u ts bs := by simpa using h4
  subst h4
  have en : ∀ l, D.tup (nL l) = nD l := fun _ => rfl
  simp -implicitDefEqProofs [c_takers_of, m_takers_of, runDef_ap, aVar_ap, len_iD, rgB_nat (show bs.length ≤ 16777216 by omega), rgD_nL, e, en]
end P_k21

namespace P_k21
open Z PySem PySem.Spec PyProof.Rows L2 Sale
def paid (n : Nat) (S : List Nat) (ts : List Int) : List Int := (List.range n).map fun p => if p ∈ S then bd ts p else 0
def postD (u : Nat) (ts bs : List Int) : D := .tup [nD (takers u ts bs), iD (paid bs.length (takers u ts bs) ts)]
theorem posted_of_ok {u : Nat} {ts bs : List Int} (ht : ts.length = bs.length) (hl : bs.length ≤ 1000) : c_posted_of [⟨.int (u : Int), 0⟩, ⟨iD ts, 0⟩, ⟨iD bs, 0⟩] = .ok (⟨postD u ts bs, 0⟩, [⟨.int (u : Int), 0⟩, ⟨iD ts, 0⟩, ⟨iD bs, 0⟩]) := by
  obtain ⟨ρ', e, hI⟩ := loopF_go (it := ⟨nL (List.range bs.length), none⟩) (g := gN 5) (body := (mSeq (mIf (mTest (mPrim (fIn false) [(aVar 5), (aVar 3)])) (mSeq (mExpr (mMeth 4 fAppend [(mPrim fIx [(aVar 1), (aVar 5)])])) mNext) (mSeq (mExpr (mMeth 4 fAppend [(aC (.int 0))])) mNext)) mNext)) (L := [])
    (I := fun r ρ => ∃ qs acc x, r = nL qs ∧ (∀ q ∈ qs, q < bs.length) ∧ ρ = [some ⟨.int (u : Int), 0⟩, some ⟨iD ts, 0⟩, some ⟨iD bs, 0⟩, some ⟨nD (takers u ts bs), 0⟩, some ⟨.lst (iL acc), 1⟩, x] ∧ acc ++ (qs.map fun p => if p ∈ takers u ts bs then bd ts p else 0) = paid bs.length (takers u ts bs) ts ∧ acc.length + qs.length ≤ bs.length)
    (fun d r ρ ⟨qs, acc, x, h1, h2, h3, h4, h5⟩ => by
      subst h3
      cases qs with
      | nil => cases h1
      | cons q qs =>
        cases h1
        simp only [List.length_cons] at h5
        have hq := h2 q (List.mem_cons_self ..)
        have h2' : ∀ q ∈ qs, q < bs.length := fun q hq => h2 q (List.mem_cons_of_mem _ hq)
        have hqt : q < ts.length := by omega
        have ha : (iL acc).length ≤ 10000 := by rw [iL_len]; omega
        by_cases hw : q ∈ takers u ts bs
        · simp -implicitDefEqProofs [aVar_ap, in_nD, hw, ix_bd hqt, f_app ha, chkOk]
          refine ⟨qs, rfl, h2', acc ++ [bd ts q], by simp [iL], ?_, by simp; omega⟩
          rw [← h4]; simp [hw]
        · simp -implicitDefEqProofs [aVar_ap, in_nD, hw, f_app ha, chkOk]
          refine ⟨qs, rfl, h2', acc ++ [0], by simp [iL], ?_, by simp; omega⟩
          rw [← h4]; simp [hw])
    (ds := nL (List.range bs.length)) (ρ := [some ⟨.int (u : Int), 0⟩, some ⟨iD ts, 0⟩, some ⟨iD bs, 0⟩, some ⟨nD (takers u ts bs), 0⟩, some ⟨.lst [], 1⟩, none]) ⟨List.range bs.length, [], none, rfl, fun q hq => by simpa using hq, rfl, rfl, by simp⟩
  obtain ⟨qs, acc, x, h1, _, rfl, h4, _⟩ := hI
  have : qs = [] := by cases qs with | nil => rfl | cons _ _ => cases h1
  subst this
  have h4 : acc = paid bs.length (takers u ts bs) ts := by simpa using h4
  subst h4
  have en : ∀ l, D.tup (iL l) = iD l := fun _ => rfl
  simp -implicitDefEqProofs [c_posted_of, m_posted_of, runDef_ap, aVar_ap, takers_of_ok ht hl, len_iD, rgB_nat (show bs.length ≤ 16777216 by omega), rgD_nL, e, en, postD]
theorem in_nLst {ps : List Nat} {i k k' : Nat} : fIn false [⟨.int (i : Int), k⟩, ⟨.lst (nL ps), k'⟩] = .ok ⟨.bl (decide (i ∈ ps)), 0⟩ := by
  rw [nL_iL, in_iLst]
  have e : ((i : Int) ∈ ps.map fun (i : Nat) => (i : Int)) ↔ i ∈ ps := by
    rw [List.mem_map]
    exact ⟨fun ⟨a, ha, h⟩ => by rw [← Int.ofNat_inj.mp h]; exact ha, fun h => ⟨i, h, rfl⟩⟩
  simp only [e]
theorem cut_nL {l : List Nat} {u : Nat} : Z.cutD (nL l) none (some (u : Int)) = nL (l.take u) := by
  unfold Z.cutD
  rw [HT.sIx_none, HT.sIx_nat, nL_len, List.drop_zero, Nat.sub_zero]
  unfold nL
  rw [← List.map_take]
  congr 1
  rw [Nat.min_def]
  split
  · rfl
  · rw [List.take_of_length_le (Nat.le_refl _), List.take_of_length_le (by omega)]
end P_k21

namespace P_k21
open Z PySem PySem.Spec PyProof.Rows L2 Sale
theorem will_loop {ts bs : List Int} (ht : ts.length = bs.length) {c0 c3 c5 : Option Cell} : loopC ⟨nL (List.range bs.length), none⟩ (gN 4) (mTest (mPrim fGe [(mPrim fIx [(aVar 2), (aVar 4)]), (mPrim fIx [(aVar 1), (aVar 4)])])) (aVar 4) [4] (nL (List.range bs.length)) [c0, some ⟨iD ts, 0⟩, some ⟨iD bs, 0⟩, c3, none, c5] = .ok (nL ((List.range bs.length).filter (willing ts bs)), [c0, some ⟨iD ts, 0⟩, some ⟨iD bs, 0⟩, c3, none, c5]) :=
  comp_filter (g := gN 4) (tt := (mTest (mPrim fGe [(mPrim fIx [(aVar 2), (aVar 4)]), (mPrim fIx [(aVar 1), (aVar 4)])]))) (me := aVar 4) (vs := [4]) (ρ0 := [c0, some ⟨iD ts, 0⟩, some ⟨iD bs, 0⟩, c3, none, c5]) (it := ⟨nL (List.range bs.length), none⟩) (f := willing ts bs) (h := fun p => .int (p : Int)) rfl (ps := List.range bs.length) fun p hp => by
    have hp := List.mem_range.mp hp
    have hpt : p < ts.length := by omega
    refine ⟨[c0, some ⟨iD ts, 0⟩, some ⟨iD bs, 0⟩, c3, some ⟨.int (p : Int), 0⟩, c5], .s 4, [c0, some ⟨iD ts, 0⟩, some ⟨iD bs, 0⟩, c3, some ⟨.int (p : Int), 0⟩, c5], [c0, some ⟨iD ts, 0⟩, some ⟨iD bs, 0⟩, c3, some ⟨.int (p : Int), 0⟩, c5], 0, ?_, ?_, ?_, ?_, ?_, ?_⟩
    · simp [wipeE]
    · simp -implicitDefEqProofs [aVar_ap, ix_bd hp, ix_bd hpt, willing]
    · simp [aVar_ap]
    · simp
    · simp [wipeE]
    · simp [wipeE]
theorem paid_loop {n : Nat} {S : List Nat} {ts : List Int} (ht : ts.length = n) {c0 c2 c3 : Option Cell} : loopC ⟨nL (List.range n), none⟩ (gN 4) mYes (mPrim fMul [(mPrim fIx [(aVar 1), (aVar 4)]), (mPrim fInt [(mPrim (fIn false) [(aVar 4), (aVar 5)])])]) [4] (nL (List.range n)) [c0, some ⟨iD ts, 0⟩, c2, c3, none, some ⟨.lst (nL S), 1⟩] = .ok (iL (paid n S ts), [c0, some ⟨iD ts, 0⟩, c2, c3, none, some ⟨.lst (nL S), 1⟩]) := by
  have e := comp_filter (g := gN 4) (tt := mYes) (me := (mPrim fMul [(mPrim fIx [(aVar 1), (aVar 4)]), (mPrim fInt [(mPrim (fIn false) [(aVar 4), (aVar 5)])])])) (vs := [4]) (ρ0 := [c0, some ⟨iD ts, 0⟩, c2, c3, none, some ⟨.lst (nL S), 1⟩]) (it := ⟨nL (List.range n), none⟩) (f := fun _ => true) (h := fun p => .int (if p ∈ S then bd ts p else 0)) rfl (ps := List.range n) (fun p hp => by
    have hp := List.mem_range.mp hp
    have hpt : p < ts.length := by omega
    refine ⟨[c0, some ⟨iD ts, 0⟩, c2, c3, some ⟨.int (p : Int), 0⟩, some ⟨.lst (nL S), 1⟩], .v ⟨.int (if p ∈ S then bd ts p else 0), 0⟩, [c0, some ⟨iD ts, 0⟩, c2, c3, some ⟨.int (p : Int), 0⟩, some ⟨.lst (nL S), 1⟩], [c0, some ⟨iD ts, 0⟩, c2, c3, some ⟨.int (p : Int), 0⟩, some ⟨.lst (nL S), 1⟩], 0, ?_, ?_, ?_, ?_, ?_, ?_⟩
    · simp [wipeE]
    · simp
    · by_cases hq : p ∈ S
      · simp -implicitDefEqProofs [aVar_ap, ix_bd hpt, in_nLst, hq, p_mulR]
      · simp -implicitDefEqProofs [aVar_ap, ix_bd hpt, in_nLst, hq, p_mulR]
    · simp
    · simp [wipeE]
    · simp [wipeE])
  have e2 : ((List.range n).filter fun _ => true).map (fun p => D.int (if p ∈ S then bd ts p else 0)) = iL (paid n S ts) := by
    rw [List.filter_eq_self.mpr (fun _ _ => rfl)]
    unfold paid iL
    rw [List.map_map]
    rfl
  rw [e2] at e
  exact e
theorem law_posted_ok {u : Nat} {ts bs : List Int} (ht : ts.length = bs.length) (hl : bs.length ≤ 1000) : c__law_posted [⟨.int (u : Int), 0⟩, ⟨iD ts, 0⟩, ⟨iD bs, 0⟩] = .ok (⟨postD u ts bs, 0⟩, [⟨.int (u : Int), 0⟩, ⟨iD ts, 0⟩, ⟨iD bs, 0⟩]) := by
  have hst : (nL (List.range bs.length)).length ≤ 16777216 := by rw [nL_len]; simp; omega
  have en : ∀ l, D.tup (iL l) = iD l := fun _ => rfl
  have en2 : ∀ l, D.tup (nL l) = nD l := fun _ => rfl
  have ec := cut_nL (l := (List.range bs.length).filter (willing ts bs)) (u := u)
  have et : ((List.range bs.length).filter (willing ts bs)).take u = takers u ts bs := rfl
  rw [et] at ec
  simp -implicitDefEqProofs [c__law_posted, m__law_posted, runDef_ap, aVar_ap, len_iD, rgB_nat (show bs.length ≤ 16777216 by omega), rgD_nL, ownOk, hst, chkOk, wipeE, will_loop ht, restore, mSl, evO, fSl, ec, paid_loop ht, en, en2, postD]
end P_k21

namespace P_k21
open Z PySem PySem.Spec PyProof.Rows L2 Sale
/-- numbers and numbers -/
def twoD (S : List Nat) (is : List Int) : D := .tup [nD S, iD is]
theorem twoD_ok {S : List Nat} {is : List Int} : (twoD S is).okd 60 = true := by
  show List.all _ _ = true
  rw [List.all_cons, List.all_cons, List.all_nil, Bool.and_true, Bool.and_eq_true]
  constructor
  · show (nL _).all (D.okd 58) = true
    unfold nL
    rw [List.all_map, List.all_eq_true]
    intro i _
    rfl
  · show (iL _).all (D.okd 58) = true
    unfold iL
    rw [List.all_map, List.all_eq_true]
    intro i _
    rfl
theorem is_pair_ok {S : List Nat} {is : List Int} : c__law_is_pair [⟨twoD S is, 0⟩] = .ok (⟨.bl true, 0⟩, [⟨twoD S is, 0⟩]) := by
  simp -implicitDefEqProofs [c__law_is_pair, m__law_is_pair, runDef_ap, aVar_ap, twoD]
theorem is_due_ok {S : List Nat} {is : List Int} (h1 : S.length ≤ 1000) (h2 : is.length ≤ 1000) : c__law_is_due [⟨twoD S is, 0⟩, ⟨twoD S is, 0⟩] = .ok (⟨.bl true, 0⟩, [⟨twoD S is, 0⟩, ⟨twoD S is, 0⟩]) := by
  have x0 : fIx [⟨twoD S is, 0⟩, ⟨.int 0, 0⟩] = .ok ⟨nD S, 0⟩ := p_ixT ix_0
  have x1 : fIx [⟨twoD S is, 0⟩, ⟨.int 1, 0⟩] = .ok ⟨iD is, 0⟩ := p_ixT ix_1
  have i1 : c_is_ints [⟨nD S, 0⟩] = .ok (⟨.bl true, 0⟩, [⟨nD S, 0⟩]) := by
    unfold nD
    rw [nL_iL]
    exact is_ints_ok (by rw [List.length_map]; omega)
  have i2 := is_ints_ok (is := is) (by omega)
  simp -implicitDefEqProofs [c__law_is_due, m__law_is_due, runDef_ap, aVar_ap, is_pair_ok, x0, x1, i1, i2, f_eqSelf twoD_ok]
theorem sale_right_ok {u : Nat} {bs : List Int} (h0 : 0 < bs.length) (hl : bs.length ≤ 100) (hb : ∀ p, 0 ≤ bd bs p) (b : Bool) : c__law_sale_right [⟨.int (u : Int), 0⟩, ⟨iD bs, 0⟩, ⟨.bl b, 0⟩] = .ok (⟨.bl true, 0⟩, [⟨.int (u : Int), 0⟩, ⟨iD bs, 0⟩, ⟨.bl b, 0⟩]) := by
  have e1 := sale_of_ok (u := u) (bs := bs) (by omega)
  have e2 := law_sale_ok (u := u) h0 (by omega) hb
  have hw : (winners u bs).length ≤ bs.length := by
    have := (List.filter_sublist (l := List.range bs.length) (p := fun p => decide (place bs p < u))).length_le
    simpa [winners] using this
  have e3 := is_due_ok (S := winners u bs) (is := prices bs.length (winners u bs) (salePrice u bs)) (by omega) (by unfold prices; rw [List.length_map, List.length_range]; omega)
  have e3 : c__law_is_due [⟨saleD u bs, 0⟩, ⟨saleD u bs, 0⟩] = .ok (⟨.bl true, 0⟩, [⟨saleD u bs, 0⟩, ⟨saleD u bs, 0⟩]) := e3
  cases b <;> simp -implicitDefEqProofs [c__law_sale_right, m__law_sale_right, runDef_ap, aVar_ap, reord, Src.free, e1, e2, e3]
theorem posted_right_ok {u : Nat} {ts bs : List Int} (ht : ts.length = bs.length) (hl : bs.length ≤ 100) (b : Bool) : c__law_posted_right [⟨.int (u : Int), 0⟩, ⟨iD ts, 0⟩, ⟨iD bs, 0⟩, ⟨.bl b, 0⟩] = .ok (⟨.bl true, 0⟩, [⟨.int (u : Int), 0⟩, ⟨iD ts, 0⟩, ⟨iD bs, 0⟩, ⟨.bl b, 0⟩]) := by
  have e1 := posted_of_ok (u := u) ht (by omega)
  have e2 := law_posted_ok (u := u) ht (by omega)
  have hw : (takers u ts bs).length ≤ bs.length := by
    have := (List.filter_sublist (l := List.range bs.length) (p := willing ts bs)).length_le
    rw [List.length_range] at this
    unfold takers
    rw [List.length_take]
    omega
  have e3 := is_due_ok (S := takers u ts bs) (is := paid bs.length (takers u ts bs) ts) (by omega) (by unfold paid; rw [List.length_map, List.length_range]; omega)
  have e3 : c__law_is_due [⟨postD u ts bs, 0⟩, ⟨postD u ts bs, 0⟩] = .ok (⟨.bl true, 0⟩, [⟨postD u ts bs, 0⟩, ⟨postD u ts bs, 0⟩]) := e3
  cases b <;> simp -implicitDefEqProofs [c__law_posted_right, m__law_posted_right, runDef_ap, aVar_ap, reord, Src.free, e1, e2, e3]
end P_k21

namespace P_k21
open Z PySem PySem.Spec PyProof.Rows L2 Sale
def clip (i : Int) : Int := if (if i < 1000000 then i else 1000000) > 0 then (if i < 1000000 then i else 1000000) else 0
theorem clip_pos {i : Int} : 0 ≤ clip i := by unfold clip; split <;> omega
theorem f_min2 {i j : Int} {k k' : Nat} : fMin [⟨.int i, k⟩, ⟨.int j, k'⟩] = .ok ⟨.int (if j < i then j else i), 0⟩ := rfl
theorem clip_ok {i : Int} : c__law_clip [⟨.int i, 0⟩] = .ok (⟨.int (clip i), 0⟩, [⟨.int i, 0⟩]) := by
  simp -implicitDefEqProofs [c__law_clip, m__law_clip, runDef_ap, aVar_ap, f_min2, f_max2, clip]
/-- amounts so far -/
def aS (is : List Int) : Cell := ⟨.lst (iL is), 1⟩
theorem amount_ok {c : Cell} {is : List Int} (h : DSt c) (hl : is.length ≤ 1000) : ∃ (i : Int) (c' : Cell), c__law_amount [c, aS is] = .ok (⟨.int i, 0⟩, [c', aS is]) ∧ DSt c' ∧ 0 ≤ i := by
  obtain ⟨m, rfl⟩ := h.k
  obtain ⟨way, c1, e1, hc1, hw1, hw2⟩ := draw_ok (many := 6) h (by decide) (by decide)
  obtain ⟨m1, rfl⟩ := hc1.k
  unfold aS
  by_cases w1 : way = 1
  · obtain ⟨n, c2, e2, hc2, hn1, hn2⟩ := draw_ok (many := 1000001) hc1 (by decide) (by decide)
    obtain ⟨m2, rfl⟩ := hc2.k
    refine ⟨n, _, ?_, hc2, hn1⟩
    simp -implicitDefEqProofs [c__law_amount, m__law_amount, runDef_ap, aVar_ap, e1, w1, e2]
  by_cases w2 : way = 2
  · obtain ⟨d, c2, e2, hc2, hd⟩ := pick_lst (l := [D.int 0, D.int 1, D.int 999999, D.int 1000000]) (k := 1) hc1 (by decide) (by decide) (by decide)
    obtain ⟨m2, rfl⟩ := hc2.k
    simp only [List.mem_cons, List.not_mem_nil, or_false] at hd
    obtain ⟨i, rfl, hi⟩ : ∃ i : Int, d = .int i ∧ 0 ≤ i := by
      rcases hd with rfl | rfl | rfl | rfl <;> exact ⟨_, rfl, by decide⟩
    refine ⟨i, _, ?_, hc2, hi⟩
    simp -implicitDefEqProofs [c__law_amount, m__law_amount, runDef_ap, aVar_ap, e1, w1, w2, e2]
  have last : ∃ (i : Int) (c' : Cell), c_draw [⟨.lst m1, 1⟩, ⟨.int 3, 0⟩] = .ok (⟨.int i, 0⟩, [c', ⟨.int 3, 0⟩]) ∧ DSt c' ∧ 0 ≤ i ∧ i < 3 := draw_ok (many := 3) hc1 (by decide) (by decide)
  by_cases w3 : way = 3
  · by_cases h0 : is = []
    · obtain ⟨n, c2, e2, hc2, hn1, hn2⟩ := last
      obtain ⟨m2, rfl⟩ := hc2.k
      refine ⟨n, _, ?_, hc2, hn1⟩
      subst h0
      simp -implicitDefEqProofs [c__law_amount, m__law_amount, runDef_ap, aVar_ap, e1, w1, w2, w3, e2, iL]
    · have hp : 0 < (iL is).length := by rw [iL_len]; exact List.length_pos_iff.mpr h0
      obtain ⟨d, c2, e2, hc2, hd⟩ := pick_lst (l := iL is) (k := 1) hc1 (by decide) hp (by rw [iL_len]; omega)
      obtain ⟨m2, rfl⟩ := hc2.k
      obtain ⟨i, hi, rfl⟩ := List.mem_map.mp hd
      obtain ⟨n, c3, e3, hc3, hn1, hn2⟩ := draw_ok (many := 3) hc2 (by decide) (by decide)
      obtain ⟨m3, rfl⟩ := hc3.k
      have hemp : (iL is).isEmpty = false := by cases is with | nil => exact absurd rfl h0 | cons _ _ => rfl
      generalize iL is = il at *
      refine ⟨_, _, ?_, hc3, clip_pos (i := i + n - 1)⟩
      simp -implicitDefEqProofs [c__law_amount, m__law_amount, runDef_ap, aVar_ap, e1, w1, w2, w3, hemp, e2, e3, clip_ok]
  · obtain ⟨n, c2, e2, hc2, hn1, hn2⟩ := last
    obtain ⟨m2, rfl⟩ := hc2.k
    refine ⟨n, _, ?_, hc2, hn1⟩
    simp -implicitDefEqProofs [c__law_amount, m__law_amount, runDef_ap, aVar_ap, e1, w1, w2, w3, e2]
end P_k21

namespace P_k21
open Z PySem PySem.Spec PyProof.Rows L2 Sale
def pos (is : List Int) : Prop := ∀ i ∈ is, 0 ≤ i
theorem pos.app {is : List Int} {i : Int} (h : pos is) (hi : 0 ≤ i) : pos (is ++ [i]) := fun x hx => by
  rw [List.mem_append, List.mem_singleton] at hx
  rcases hx with hx | rfl
  · exact h x hx
  · exact hi
theorem said_loop {c : Cell} (h : DSt c) {n : Nat} (hn : n ≤ 4) {c1 c2 c5 : Option Cell} : ∃ (is : List Int) (c' : Cell) (x : Option Cell), loopF ⟨nL (List.range n), none⟩ (gN 4) (mSeq (mExpr (mMeth 3 fAppend [(mCall c__law_amount [(aVar 0), (aVar 3)])])) mNext) [0] (nL (List.range n)) [some c, c1, c2, some ⟨.lst [], 1⟩, none, c5] = .ok (.next, [some c', c1, c2, some (aS is), x, c5]) ∧ DSt c' ∧ pos is ∧ is.length = n := by
  obtain ⟨ρ', e, hI⟩ := loopF_go (it := ⟨nL (List.range n), none⟩) (g := gN 4) (body := (mSeq (mExpr (mMeth 3 fAppend [(mCall c__law_amount [(aVar 0), (aVar 3)])])) mNext)) (L := [0])
    (I := fun r ρ => ∃ is c' x, ρ = [some c', c1, c2, some (aS is), x, c5] ∧ DSt c' ∧ pos is ∧ is.length + r.length = n)
    (fun d r ρ ⟨is, c', x, h1, h2, h3, h4⟩ => by
      subst h1
      simp only [List.length_cons] at h4
      obtain ⟨i, c3, e3, hc3, hi⟩ := amount_ok (is := is) h2 (by omega)
      have hc3' := hc3
      obtain ⟨m2, rfl⟩ := h2.k
      obtain ⟨m3, rfl⟩ := hc3.k
      have ha : (iL is).length ≤ 10000 := by rw [iL_len]; omega
      unfold aS at e3 ⊢
      simp -implicitDefEqProofs [aVar_ap, e3, f_app ha, chkOk]
      exact ⟨is ++ [i], _, ⟨rfl, by simp [iL]⟩, hc3', h3.app hi, by simp; omega⟩)
    (ds := nL (List.range n)) (ρ := [some c, c1, c2, some ⟨.lst [], 1⟩, none, c5]) ⟨[], c, none, rfl, h, fun _ hx => by simp at hx, by rw [nL_len]; simp⟩
  obtain ⟨is, c', x, rfl, h2, h3, h4⟩ := hI
  exact ⟨is, c', x, e, h2, h3, by simpa using h4⟩
end P_k21

namespace P_k21
open Z PySem PySem.Spec PyProof.Rows L2 Sale
theorem ix_aS {is : List Int} {p : Nat} (h : p < is.length) : fIx [aS is, ⟨.int (p : Int), 0⟩] = .ok ⟨.int (bd is p), 0⟩ := by
  have h' : p < (iL is).length := by rw [iL_len]; exact h
  refine p_ixL (by decide) ((atI_nat h').trans ?_)
  have e : (iL is)[p] = .int is[p] := by simp only [iL, List.getElem_map]
  rw [e]
  simp [bd, List.getElem?_eq_getElem h]
def tagB : MS := (mSeq (mIf (mTest (mPrim fEq [(mCall c_draw [(aVar 0), (aC (.int 3))]), (aC (.int 1))])) (mSeq (mExpr (mMeth 5 fAppend [(mCall c__law_amount [(aVar 0), (aVar 3)])])) mNext) (mSeq (mExpr (mMeth 5 fAppend [(mCall c__law_clip [(mPrim fSub [(mPrim fAdd [(mPrim fIx [(aVar 3), (aVar 4)]), (mCall c_draw [(aVar 0), (aC (.int 3))])]), (aC (.int 1))])])])) mNext)) mNext)
theorem tags_loop {c : Cell} (h : DSt c) {is : List Int} (hn : is.length ≤ 4) {c1 c2 x4 : Option Cell} : ∃ (ts : List Int) (c' : Cell) (x : Option Cell), loopF ⟨nL (List.range is.length), none⟩ (gN 4) tagB [0] (nL (List.range is.length)) [some c, c1, c2, some (aS is), x4, some ⟨.lst [], 1⟩] = .ok (.next, [some c', c1, c2, some (aS is), x, some (aS ts)]) ∧ DSt c' ∧ pos ts ∧ ts.length = is.length := by
  obtain ⟨ρ', e, hI⟩ := loopF_go (it := ⟨nL (List.range is.length), none⟩) (g := gN 4) (body := tagB) (L := [0])
    (I := fun r ρ => ∃ qs ts c' x, r = nL qs ∧ (∀ q ∈ qs, q < is.length) ∧ ρ = [some c', c1, c2, some (aS is), x, some (aS ts)] ∧ DSt c' ∧ pos ts ∧ ts.length + qs.length = is.length)
    (fun d r ρ ⟨qs, ts, c', x, g1, g2, h1, h2, h3, h4⟩ => by
      subst h1
      cases qs with
      | nil => cases g1
      | cons q qs =>
        cases g1
        simp only [List.length_cons] at h4
        have hq := g2 q (List.mem_cons_self ..)
        have g2' : ∀ q ∈ qs, q < is.length := fun q hq => g2 q (List.mem_cons_of_mem _ hq)
        obtain ⟨w, c3, e3, hc3, hw1, hw2⟩ := draw_ok (many := 3) h2 (by decide) (by decide)
        have ha : (iL ts).length ≤ 10000 := by rw [iL_len]; omega
        obtain ⟨m2, rfl⟩ := h2.k
        unfold tagB
        by_cases w1 : w = 1
        · obtain ⟨i, c4, e4, hc4, hi⟩ := amount_ok (is := is) hc3 (by omega)
          have hc4' := hc4
          obtain ⟨m3, rfl⟩ := hc3.k
          obtain ⟨m4, rfl⟩ := hc4.k
          unfold aS at e4 ⊢
          simp -implicitDefEqProofs [aVar_ap, e3, w1, e4, f_app ha, chkOk]
          exact ⟨qs, rfl, g2', ts ++ [i], _, ⟨rfl, by simp [iL]⟩, hc4', h3.app hi, by simp; omega⟩
        · obtain ⟨i, c4, e4, hc4, hi1, hi2⟩ := draw_ok (many := 3) hc3 (by decide) (by decide)
          have hc4' := hc4
          obtain ⟨m3, rfl⟩ := hc3.k
          obtain ⟨m4, rfl⟩ := hc4.k
          have hx := ix_aS hq
          unfold aS at hx ⊢
          simp -implicitDefEqProofs [aVar_ap, e3, w1, hx, e4, clip_ok, f_app ha, chkOk]
          exact ⟨qs, rfl, g2', ts ++ [clip (bd is q + i - 1)], _, ⟨rfl, by simp [iL]⟩, hc4', h3.app clip_pos, by simp; omega⟩)
    (ds := nL (List.range is.length)) (ρ := [some c, c1, c2, some (aS is), x4, some ⟨.lst [], 1⟩]) ⟨List.range is.length, [], c, x4, rfl, fun q hq => by simpa using hq, rfl, h, fun _ hx => by simp at hx, by simp⟩
  obtain ⟨qs, ts, c', x, g1, _, rfl, h2, h3, h4⟩ := hI
  have : qs = [] := by cases qs with | nil => rfl | cons _ _ => cases g1
  subst this
  exact ⟨ts, c', x, e, h2, h3, by simpa using h4⟩
end P_k21

namespace P_k21
open Z PySem PySem.Spec PyProof.Rows L2 Sale
/-- a sale: units, bids, tags -/
def Sal (u : Nat) (bs ts : List Int) : Prop := 1 ≤ u ∧ u ≤ 4 ∧ 1 ≤ bs.length ∧ bs.length ≤ 4 ∧ ts.length = bs.length ∧ pos bs ∧ pos ts
def wD (u : Nat) (bs ts : List Int) : D := .tup [.int (u : Int), iD bs, iD ts]
theorem world_ok {c : Cell} (h : DSt c) : ∃ (u : Nat) (bs ts : List Int) (c' : Cell), c__law_world [c] = .ok (⟨wD u bs ts, 0⟩, [c']) ∧ DSt c' ∧ Sal u bs ts := by
  obtain ⟨m, rfl⟩ := h.k
  obtain ⟨n, c1, e1, hc1, hn1, hn2⟩ := draw_ok (many := 4) h (by decide) (by decide)
  obtain ⟨m1, rfl⟩ := hc1.k
  obtain ⟨n, rfl⟩ := Int.eq_ofNat_of_zero_le hn1
  obtain ⟨u, c2, e2, hc2, hu1, hu2⟩ := draw_ok (many := 4) hc1 (by decide) (by decide)
  have hc2' := hc2
  obtain ⟨m2, rfl⟩ := hc2.k
  obtain ⟨u, rfl⟩ := Int.eq_ofNat_of_zero_le hu1
  obtain ⟨bs, c3, x3, e3, hc3, hb, hbl⟩ := said_loop hc2' (n := 1 + n) (by omega) (c1 := some ⟨.int (1 + (n : Int)), 0⟩) (c2 := some ⟨.int (1 + (u : Int)), 0⟩) (c5 := none)
  have hc3' := hc3
  obtain ⟨m3, rfl⟩ := hc3.k
  obtain ⟨ts, c4, x4, e4, hc4, ht, htl⟩ := tags_loop hc3' (is := bs) (by omega) (c1 := some ⟨.int (1 + (n : Int)), 0⟩) (c2 := some ⟨.int (1 + (u : Int)), 0⟩) (x4 := x3)
  obtain ⟨m4, rfl⟩ := hc4.k
  have hr := rgB_nat (n := 1 + n) (by omega)
  have en := rgD_nL (n := 1 + n)
  rw [show ((1 + n : Nat) : Int) = 1 + (n : Int) by omega] at hr en
  rw [hbl] at e4
  refine ⟨1 + u, bs, ts, _, ?_, hc4, by omega, by omega, by omega, by omega, htl, hb, ht⟩
  have ew : wD (1 + u) bs ts = .tup [.int (1 + (u : Int)), iD bs, iD ts] := by unfold wD; rw [show ((1 + u : Nat) : Int) = 1 + (u : Int) by omega]
  rw [ew]
  unfold tagB at e4
  have en2 : ∀ l, D.tup (iL l) = iD l := fun _ => rfl
  unfold aS at e3 e4
  simp -implicitDefEqProofs [c__law_world, m__law_world, runDef_ap, aVar_ap, e1, e2, hr, en, e3, e4, en2]
end P_k21

namespace P_k21
open Z PySem PySem.Spec PyProof.Rows L2 Sale
theorem edge_ok {u p : Nat} {bs : List Int} (hu : 1 ≤ u) (hp : p < bs.length) (hl : bs.length ≤ 1000) : ∃ x : Int, c__law_edge [⟨.int (u : Int), 0⟩, ⟨iD bs, 0⟩, ⟨.int (p : Int), 0⟩] = .ok (⟨.int x, 0⟩, [⟨.int (u : Int), 0⟩, ⟨iD bs, 0⟩, ⟨.int (p : Int), 0⟩]) := by
  have e := comp_filter (g := gN 4) (tt := (mTest (mPrim fNe [(aVar 4), (aVar 2)]))) (me := (mPrim fSub [(aC (.int 0)), (mPrim fIx [(aVar 1), (aVar 4)])])) (vs := [4]) (ρ0 := [some ⟨.int (u : Int), 0⟩, some ⟨iD bs, 0⟩, some ⟨.int (p : Int), 0⟩, none, none]) (it := ⟨nL (List.range bs.length), none⟩) (f := fun q => decide (q ≠ p)) (h := fun q => .int (0 - bd bs q)) rfl (ps := List.range bs.length) (fun q hq => by
    have hq := List.mem_range.mp hq
    refine ⟨[some ⟨.int (u : Int), 0⟩, some ⟨iD bs, 0⟩, some ⟨.int (p : Int), 0⟩, none, some ⟨.int (q : Int), 0⟩], .v ⟨.int (0 - bd bs q), 0⟩, [some ⟨.int (u : Int), 0⟩, some ⟨iD bs, 0⟩, some ⟨.int (p : Int), 0⟩, none, some ⟨.int (q : Int), 0⟩], [some ⟨.int (u : Int), 0⟩, some ⟨iD bs, 0⟩, some ⟨.int (p : Int), 0⟩, none, some ⟨.int (q : Int), 0⟩], 0, ?_, ?_, ?_, ?_, ?_, ?_⟩
    · simp [wipeE]
    · by_cases h : q = p
      · simp -implicitDefEqProofs [aVar_ap, h]
      · have h' : ¬ (q : Int) = (p : Int) := by omega
        simp -implicitDefEqProofs [aVar_ap, h, h']
    · simp -implicitDefEqProofs [aVar_ap, ix_bd hq]
    · simp
    · simp [wipeE]
    · simp [wipeE])
  have e2 : ((List.range bs.length).filter fun q => decide (q ≠ p)).map (fun q => D.int (0 - bd bs q)) = iL (((List.range bs.length).filter fun q => decide (q ≠ p)).map fun q => 0 - bd bs q) := by
    unfold iL
    rw [List.map_map]
    rfl
  rw [e2] at e
  generalize ((List.range bs.length).filter fun q => decide (q ≠ p)).map (fun q => 0 - bd bs q) = os at e
  have es := sort_ints (ns := os)
  have hlen : (isort os).length = os.length := isort_perm.length_eq
  have hst : (nL (List.range bs.length)).length ≤ 16777216 := by rw [nL_len]; simp; omega
  simp [wipeE] at e
  have hfl : fLen [⟨.lst (iL (isort os)), 1⟩] = .ok ⟨.int (isort os).length, 0⟩ := by rw [len_lst, iL_len]; rfl
  by_cases hc : (isort os).length < u
  · refine ⟨0, ?_⟩
    generalize iL (isort os) = ls at *
    simp -implicitDefEqProofs [c__law_edge, m__law_edge, runDef_ap, aVar_ap, len_iD, rgB_nat (show bs.length ≤ 16777216 by omega), rgD_nL, ownOk, hst, chkOk, wipeE, e, restore, es, hfl, hc]
  · have hi : u - 1 < (iL (isort os)).length := by rw [iL_len]; omega
    have hx : fIx [⟨.lst (iL (isort os)), 1⟩, ⟨.int ((u : Int) - 1), 0⟩] = .ok ⟨.int ((isort os)[u - 1]'(by omega)), 0⟩ := by
      refine p_ixL (by decide) ?_
      have := atI_nat hi
      rw [show ((u - 1 : Nat) : Int) = (u : Int) - 1 by omega] at this
      rw [this]
      simp only [iL, List.getElem_map]
    refine ⟨0 - (isort os)[u - 1]'(by omega), ?_⟩
    generalize (isort os)[u - 1]'(by omega) = y at *
    generalize iL (isort os) = ls at *
    simp -implicitDefEqProofs [c__law_edge, m__law_edge, runDef_ap, aVar_ap, len_iD, rgB_nat (show bs.length ≤ 16777216 by omega), rgD_nL, ownOk, hst, chkOk, wipeE, e, restore, es, hfl, hc, hx]
end P_k21

namespace P_k21
open Z PySem PySem.Spec PyProof.Rows L2 Sale
theorem f_addT {l m : List D} {k k' : Nat} (h : l.length ≤ 10000) (h' : m.length ≤ 10000) : fAdd [⟨.tup l, k⟩, ⟨.tup m, k'⟩] = .ok ⟨.tup (l ++ m), 0⟩ := by
  unfold fAdd
  simp only
  rw [if_pos (by omega)]
  rfl
theorem cut_to {bs : List Int} {k : Nat} (h : k ≤ bs.length) : Z.cutD (iL bs) none (some (k : Int)) = iL (bs.take k) := by
  unfold Z.cutD
  rw [iL_len, HT.sIx_none, HT.sIx_nat, Nat.min_eq_left h]
  simp [iL, List.map_take]
theorem cut_from {bs : List Int} {k : Nat} (h : k ≤ bs.length) : Z.cutD (iL bs) (some (k : Int)) none = iL (bs.drop k) := by
  unfold Z.cutD
  rw [iL_len, HT.sIx_none, HT.sIx_nat, Nat.min_eq_left h]
  unfold iL
  rw [← List.map_drop, ← List.map_take]
  congr 1
  apply List.take_of_length_le
  simp
def putB (bs : List Int) (k : Nat) (x : Int) : List Int := bs.take k ++ [clip x] ++ bs.drop (k + 1)
theorem putB_len {bs : List Int} {k : Nat} {x : Int} (hk : k < bs.length) : (putB bs k x).length = bs.length := by unfold putB; simp; omega
theorem putB_pos {bs : List Int} {k : Nat} {x : Int} (h : pos bs) : pos (putB bs k x) := by
  intro b hb
  unfold putB at hb
  rw [List.mem_append, List.mem_append, List.mem_singleton] at hb
  rcases hb with (hb | rfl) | hb
  · exact h b (List.mem_of_mem_take hb)
  · exact clip_pos
  · exact h b (List.mem_of_mem_drop hb)
theorem with_ok {bs : List Int} {k : Nat} {x : Int} (hk : k < bs.length) (hl : bs.length ≤ 100) : c__law_with [⟨iD bs, 0⟩, ⟨.int (k : Int), 0⟩, ⟨.int x, 0⟩] = .ok (⟨iD (putB bs k x), 0⟩, [⟨iD bs, 0⟩, ⟨.int (k : Int), 0⟩, ⟨.int x, 0⟩]) := by
  have e1 := cut_to (bs := bs) (k := k) (by omega)
  have e2 := cut_from (bs := bs) (k := k + 1) (by omega)
  rw [show ((k + 1 : Nat) : Int) = (k : Int) + 1 by omega] at e2
  have ht : (iL (bs.take k)).length ≤ 10000 := by rw [iL_len, List.length_take]; omega
  have ht1 : (iL (bs.take k)).length + 1 ≤ 10000 := by rw [iL_len, List.length_take]; omega
  have hd : (iL (bs.drop (k + 1))).length ≤ 10000 := by rw [iL_len, List.length_drop]; omega
  have ei : iD bs = .tup (iL bs) := rfl
  have ej : D.tup (iL (bs.take k) ++ .int (clip x) :: iL (bs.drop (k + 1))) = iD (putB bs k x) := by
    unfold putB iD iL
    simp
  rw [ei]
  simp -implicitDefEqProofs [c__law_with, m__law_with, runDef_ap, aVar_ap, mSl, evO, fSl, e1, e2, clip_ok, f_addT, ht, ht1, hd, ej]
end P_k21

/-! Z: loops and comprehensions by a state, drawing by functions. -/
namespace Z
open PySem PySem.Spec PyProof.Rows L2
@[simp] theorem aVar_s {i : Nat} {ρ : Env} : aVar i ρ = (match ρ.get i with | some _ => .ok (.s i, ρ) | none => .bad) := rfl
@[simp] theorem runDef_s {size : Nat} {m : MS} {as : List Cell} : runDef size m as = (do
  let (fl, ρ) ← m (locks 0 as) (as.map some ++ List.replicate (size - as.length) none)
  let fs ← fins ρ 0 as
  match fl with
  | .ret c => R.ok (c, fs)
  | .next => R.ok (Cell.fz .non, fs)
  | _ => R.bad) := rfl
@[simp] theorem chk_none {l : List D} {ρ : Env} : chkOk ⟨l, none⟩ ρ = true := rfl
@[simp] theorem chk_some {l : List D} {i : Nat} {ρ : Env} : chkOk ⟨l, some i⟩ ρ = (match ρ.get i with | some c => decide (c.k ≤ 1) && decide (c.d = .lst l) | none => false) := rfl
@[simp] theorem wipe_nil {ρ : Env} : wipeE ρ [] = ρ := rfl
@[simp] theorem wipe_cons {ρ : Env} {i : Nat} {r : List Nat} : wipeE ρ (i :: r) = (wipeE ρ r).set i none := rfl
@[simp] theorem rest_nil {ρ ρ0 : Env} : restore ρ ρ0 [] = ρ := rfl
@[simp] theorem rest_cons {ρ ρ0 : Env} {i : Nat} {r : List Nat} : restore ρ ρ0 (i :: r) = (restore ρ ρ0 r).set i (ρ0.get i) := rfl
@[simp] theorem own_nil {ρ : Env} : ownOk ρ [] = true := rfl
@[simp] theorem own_cons {ρ : Env} {i : Nat} {r : List Nat} : ownOk ρ (i :: r) = ((match ρ.get i with | some c => decide (c.k = 0) | none => true) && ownOk ρ r) := rfl
@[simp] theorem items_tup {l : List D} : itemsOf (.tup l) = some l := rfl
@[simp] theorem items_lst {l : List D} : itemsOf (.lst l) = some l := rfl
@[simp] theorem items_scr {l : List D} : itemsOf (.scr l) = some l := rfl

/-! ### one turn of a loop -/
def fin1 (it : ItD) (x : Fl × Env) : R (Fl × Env) := match x.1 with
  | .ret c => .ok (.ret c, x.2)
  | .brk => .ok (.brk, x.2)
  | _ => if chkOk it x.2 then .ok (.next, x.2) else .bad
@[simp] theorem fin1_ret {it : ItD} {c : Cell} {ρ : Env} : fin1 it (.ret c, ρ) = .ok (.ret c, ρ) := rfl
@[simp] theorem fin1_brk {it : ItD} {ρ : Env} : fin1 it (.brk, ρ) = .ok (.brk, ρ) := rfl
@[simp] theorem fin1_next {it : ItD} {ρ : Env} : fin1 it (.next, ρ) = if chkOk it ρ then .ok (.next, ρ) else .bad := rfl
@[simp] theorem fin1_cont {it : ItD} {ρ : Env} : fin1 it (.cont, ρ) = if chkOk it ρ then .ok (.next, ρ) else .bad := rfl
def step1 (it : ItD) (g : MG) (body : MS) (L : List Nat) (d : D) (ρ : Env) : R (Fl × Env) := do
  let ρ1 ← g d L ρ
  let x ← body L ρ1
  fin1 it x
section
variable {it : ItD} {g : MG} {body : MS} {L : List Nat} {d : D} {r : List D} {ρ ρ' : Env} {α σ : Type} {toD : α → D} {enc : σ → Env}
theorem loopF_cons : loopF it g body L (d :: r) ρ = (do
    let ρ1 ← g d L ρ
    let (fl, ρ2) ← body L ρ1
    match fl with
    | .ret c => R.ok (.ret c, ρ2)
    | .brk => R.ok (.next, ρ2)
    | _ => if chkOk it ρ2 then loopF it g body L r ρ2 else R.bad) := rfl
theorem loop_next (h : step1 it g body L d ρ = .ok (.next, ρ')) : loopF it g body L (d :: r) ρ = loopF it g body L r ρ' := by
  rw [loopF_cons]
  unfold step1 at h
  obtain ⟨ρ1, e1, h⟩ := R.of_bind h
  obtain ⟨⟨fl, ρ2⟩, e2, h⟩ := R.of_bind h
  rw [e1]
  simp only [R.ok_bind]
  rw [e2]
  simp only [R.ok_bind]
  cases fl with
  | ret c => simp at h
  | brk => simp at h
  | next =>
    dsimp only
    by_cases hc : chkOk it ρ2 = true
    · simp [hc] at h; subst h; rw [if_pos hc]
    · simp [hc] at h
  | cont =>
    dsimp only
    by_cases hc : chkOk it ρ2 = true
    · simp [hc] at h; subst h; rw [if_pos hc]
    · simp [hc] at h
theorem loop_ret {c : Cell} (h : step1 it g body L d ρ = .ok (.ret c, ρ')) : loopF it g body L (d :: r) ρ = .ok (.ret c, ρ') := by
  rw [loopF_cons]
  unfold step1 at h
  obtain ⟨ρ1, e1, h⟩ := R.of_bind h
  obtain ⟨⟨fl, ρ2⟩, e2, h⟩ := R.of_bind h
  rw [e1]
  simp only [R.ok_bind]
  rw [e2]
  simp only [R.ok_bind]
  cases fl with
  | ret c' => simp at h; obtain ⟨rfl, rfl⟩ := h; rfl
  | brk => simp at h
  | next => by_cases hc : chkOk it ρ2 = true <;> simp [hc] at h
  | cont => by_cases hc : chkOk it ρ2 = true <;> simp [hc] at h
theorem loop_brk (h : step1 it g body L d ρ = .ok (.brk, ρ')) : loopF it g body L (d :: r) ρ = .ok (.next, ρ') := by
  rw [loopF_cons]
  unfold step1 at h
  obtain ⟨ρ1, e1, h⟩ := R.of_bind h
  obtain ⟨⟨fl, ρ2⟩, e2, h⟩ := R.of_bind h
  rw [e1]
  simp only [R.ok_bind]
  rw [e2]
  simp only [R.ok_bind]
  cases fl with
  | ret c' => simp at h
  | brk => simp at h; subst h; rfl
  | next => by_cases hc : chkOk it ρ2 = true <;> simp [hc] at h
  | cont => by_cases hc : chkOk it ρ2 = true <;> simp [hc] at h
/-- the state that a loop leaves, by what each turn does -/
theorem for_fold (toD : α → D) (enc : σ → Env) (step : σ → α → σ) (I : List α → σ → Prop) {ds : List α} {s : σ} (hI : I ds s)
    (h : ∀ a rest s, I (a :: rest) s → step1 it g body L (toD a) (enc s) = .ok (.next, enc (step s a)) ∧ I rest (step s a)) :
    loopF it g body L (ds.map toD) (enc s) = .ok (.next, enc (ds.foldl step s)) ∧ I [] (ds.foldl step s) := by
  induction ds generalizing s with
  | nil => exact ⟨rfl, hI⟩
  | cons a r ih =>
    obtain ⟨e, h2⟩ := h a r s hI
    obtain ⟨e2, h3⟩ := ih h2
    rw [List.map_cons, loop_next e, e2, List.foldl_cons]
    exact ⟨rfl, h3⟩
/-- the same by a relation -/
theorem for_rel (toD : α → D) (enc : σ → Env) (I : List α → σ → Prop) {ds : List α} {s : σ} (hI : I ds s)
    (h : ∀ a rest s, I (a :: rest) s → ∃ s', step1 it g body L (toD a) (enc s) = .ok (.next, enc s') ∧ I rest s') :
    ∃ s', loopF it g body L (ds.map toD) (enc s) = .ok (.next, enc s') ∧ I [] s' := by
  induction ds generalizing s with
  | nil => exact ⟨s, rfl, hI⟩
  | cons a r ih =>
    obtain ⟨s2, e, h2⟩ := h a r s hI
    obtain ⟨s3, e2, h3⟩ := ih h2
    exact ⟨s3, by rw [List.map_cons, loop_next e, e2], h3⟩
/-- a loop that may leave by a return -/
theorem for_ret (toD : α → D) (enc : σ → Env) (I : List α → σ → Prop) (Q : Cell → Env → Prop) {ds : List α} {s : σ} (hI : I ds s)
    (h : ∀ a rest s, I (a :: rest) s → (∃ s', step1 it g body L (toD a) (enc s) = .ok (.next, enc s') ∧ I rest s') ∨ ∃ c ρ, step1 it g body L (toD a) (enc s) = .ok (.ret c, ρ) ∧ Q c ρ) :
    (∃ s', loopF it g body L (ds.map toD) (enc s) = .ok (.next, enc s') ∧ I [] s') ∨ ∃ c ρ, loopF it g body L (ds.map toD) (enc s) = .ok (.ret c, ρ) ∧ Q c ρ := by
  induction ds generalizing s with
  | nil => exact .inl ⟨s, rfl, hI⟩
  | cons a r ih =>
    rcases h a r s hI with ⟨s2, e, h2⟩ | ⟨c, ρ, e, h2⟩
    · rcases ih h2 with ⟨s3, e2, h3⟩ | ⟨c, ρ, e2, h3⟩
      · exact .inl ⟨s3, by rw [List.map_cons, loop_next e, e2], h3⟩
      · exact .inr ⟨c, ρ, by rw [List.map_cons, loop_next e, e2], h3⟩
    · exact .inr ⟨c, ρ, by rw [List.map_cons, loop_ret e], h2⟩
end

/-! ### one turn of a comprehension -/
def comp1 (it : ItD) (g : MG) (tt : MT) (me : AE) (vs : List Nat) (d : D) (ρ : Env) : R (Option D × Env) := do
  let ρa ← g d [] ρ
  let (b, ρb) ← tt ρa
  if b then do
    let (s, ρc) ← me ρb
    let (c, ρd) ← esc s ρc
    if chkOk it (wipeE ρd vs) then R.ok (some c.d, wipeE ρd vs) else R.bad
  else if chkOk it (wipeE ρb vs) then R.ok (none, wipeE ρb vs) else R.bad
section
variable {it : ItD} {g : MG} {tt : MT} {me : AE} {vs : List Nat} {d : D} {r : List D} {ρ ρ' : Env} {α σ : Type} {toD : α → D} {enc : σ → Env}
theorem loopC_cons : loopC it g tt me vs (d :: r) ρ = (do
    let ρa ← g d [] ρ
    let (b, ρb) ← tt ρa
    if b then do
      let (s, ρc) ← me ρb
      let (c, ρd) ← esc s ρc
      if chkOk it (wipeE ρd vs) then do
        let (acc, ρe) ← loopC it g tt me vs r (wipeE ρd vs)
        R.ok (c.d :: acc, ρe)
      else R.bad
    else if chkOk it (wipeE ρb vs) then loopC it g tt me vs r (wipeE ρb vs) else R.bad) := rfl
theorem comp_next {o : Option D} (h : comp1 it g tt me vs d ρ = .ok (o, ρ')) : loopC it g tt me vs (d :: r) ρ = (do let (acc, ρe) ← loopC it g tt me vs r ρ'; R.ok (o.toList ++ acc, ρe)) := by
  rw [loopC_cons]
  unfold comp1 at h
  obtain ⟨ρa, e1, h⟩ := R.of_bind h
  obtain ⟨⟨b, ρb⟩, e2, h⟩ := R.of_bind h
  rw [e1]
  simp only [R.ok_bind]
  rw [e2]
  simp only [R.ok_bind]
  cases b with
  | true =>
    simp only [if_true] at h ⊢
    obtain ⟨⟨s, ρc⟩, e3, h⟩ := R.of_bind h
    obtain ⟨⟨c, ρd⟩, e4, h⟩ := R.of_bind h
    rw [e3]
    simp only [R.ok_bind]
    rw [e4]
    simp only [R.ok_bind]
    by_cases hc : chkOk it (wipeE ρd vs) = true
    · simp only [hc, if_true] at h ⊢
      cases h
      rfl
    · simp [hc] at h
  | false =>
    simp only [Bool.false_eq_true, if_false] at h ⊢
    by_cases hc : chkOk it (wipeE ρb vs) = true
    · simp only [hc, if_true] at h ⊢
      cases h
      cases loopC it g tt me vs r (wipeE ρb vs) <;> rfl
    · simp [hc] at h
theorem comp_fm (toD : α → D) (f : α → Option D) {ds : List α} (h : ∀ a ∈ ds, comp1 it g tt me vs (toD a) ρ = .ok (f a, ρ)) : loopC it g tt me vs (ds.map toD) ρ = .ok (ds.filterMap f, ρ) := by
  induction ds with
  | nil => rfl
  | cons a r ih =>
    rw [List.map_cons, comp_next (h a (List.mem_cons_self ..)), ih fun x hx => h x (List.mem_cons_of_mem _ hx)]
    cases e : f a with
    | none => rw [List.filterMap_cons_none e]; rfl
    | some y => rw [List.filterMap_cons_some e]; rfl
theorem comp_m (toD : α → D) (f : α → D) {ds : List α} (h : ∀ a ∈ ds, comp1 it g tt me vs (toD a) ρ = .ok (some (f a), ρ)) : loopC it g tt me vs (ds.map toD) ρ = .ok (ds.map f, ρ) := by
  rw [comp_fm toD (fun a => some (f a)) h]
  congr 2
  clear h
  induction ds with
  | nil => rfl
  | cons a r ih => simp
theorem comp_f (toD : α → D) (p : α → Bool) (f : α → D) {ds : List α} (h : ∀ a ∈ ds, comp1 it g tt me vs (toD a) ρ = .ok (if p a then some (f a) else none, ρ)) : loopC it g tt me vs (ds.map toD) ρ = .ok ((ds.filter p).map f, ρ) := by
  rw [comp_fm toD _ h]
  congr 2
  clear h
  induction ds with
  | nil => rfl
  | cons a r ih =>
    cases e : p a with
    | true => rw [List.filterMap_cons_some (by rw [e]; rfl), List.filter_cons_of_pos e, List.map_cons, ih]
    | false => rw [List.filterMap_cons_none (by rw [e]; rfl), List.filter_cons_of_neg (by rw [e]; simp), ih]
/-- a comprehension that changes a state -/
theorem comp_rel (toD : α → D) (enc : σ → Env) (I : List α → σ → List D → Prop) {ds : List α} {s : σ} {acc : List D} (hI : I ds s acc)
    (h : ∀ a rest s acc, I (a :: rest) s acc → ∃ s' o, comp1 it g tt me vs (toD a) (enc s) = .ok (o, enc s') ∧ I rest s' (acc ++ o.toList)) :
    ∃ s' out, loopC it g tt me vs (ds.map toD) (enc s) = .ok (out, enc s') ∧ I [] s' (acc ++ out) := by
  induction ds generalizing s acc with
  | nil => exact ⟨s, [], rfl, by simpa using hI⟩
  | cons a r ih =>
    obtain ⟨s2, o, e, h2⟩ := h a r s acc hI
    obtain ⟨s3, out, e2, h3⟩ := ih h2
    refine ⟨s3, o.toList ++ out, by rw [List.map_cons, comp_next e, e2]; rfl, by rw [← List.append_assoc]; exact h3⟩
end

/-! ### draws as functions -/
def DSl (l : List D) : Prop := DSt ⟨.lst l, 1⟩
def dN (l : List D) (m : Int) : Nat := match c_draw [⟨.lst l, 1⟩, ⟨.int m, 0⟩] with
  | .ok (⟨.int n, _⟩, _) => n.toNat
  | _ => 0
def dL (l : List D) (m : Int) : List D := if 0 < m ∧ m < 1073741824 then match c_draw [⟨.lst l, 1⟩, ⟨.int m, 0⟩] with
  | .ok (_, ⟨.lst l', _⟩ :: _) => l'
  | _ => l
  else l
theorem draw_all {l : List D} {m : Int} (h : DSl l) (h0 : 0 < m) (h1 : m < 1073741824) : c_draw [⟨.lst l, 1⟩, ⟨.int m, 0⟩] = .ok (⟨.int (dN l m : Nat), 0⟩, [⟨.lst (dL l m), 1⟩, ⟨.int m, 0⟩]) ∧ DSl (dL l m) ∧ (dN l m : Int) < m := by
  obtain ⟨n, c', e, hc, hn0, hn1⟩ := draw_ok h h0 h1
  obtain ⟨l', rfl⟩ := hc.k
  have e1 : dN l m = n.toNat := by unfold dN; rw [e]
  have e2 : dL l m = l' := by unfold dL; rw [if_pos ⟨h0, h1⟩, e]
  rw [e1, e2, e]
  refine ⟨?_, hc, by omega⟩
  rw [Int.toNat_of_nonneg hn0]
theorem draw_s {l : List D} {m : Int} (h : DSl l) (h0 : 0 < m) (h1 : m < 1073741824) : c_draw [⟨.lst l, 1⟩, ⟨.int m, 0⟩] = .ok (⟨.int (dN l m : Nat), 0⟩, [⟨.lst (dL l m), 1⟩, ⟨.int m, 0⟩]) := (draw_all h h0 h1).1
theorem DSl.d {l : List D} {m : Int} (h : DSl l) : DSl (dL l m) := by
  by_cases h2 : 0 < m ∧ m < 1073741824
  · exact (draw_all h h2.1 h2.2).2.1
  · unfold dL; rw [if_neg h2]; exact h
theorem dN_lt {l : List D} {m : Int} (h : DSl l) (h0 : 0 < m) (h1 : m < 1073741824) : (dN l m : Int) < m := (draw_all h h0 h1).2.2
theorem dN_ltN {l : List D} {m : Nat} (h : DSl l) (h0 : 0 < m) (h1 : m < 1073741824) : dN l (m : Int) < m := Int.ofNat_lt.mp (dN_lt h (by omega) (by omega))
theorem pick_s {l : List D} {c : D} {row : List D} {k : Nat} (hc : (c = .lst row ∧ k ≤ 1) ∨ (c = .tup row ∧ k = 0)) (h : DSl l) (h0 : 0 < row.length) (h1 : row.length < 1073741824) : c_pick [⟨.lst l, 1⟩, ⟨c, k⟩] = .ok (⟨row.getD (dN l row.length) .non, 0⟩, [⟨.lst (dL l row.length), 1⟩, ⟨c, k⟩]) := by
  have hd := draw_s (m := (row.length : Int)) h (by omega) (by omega)
  have hl := dN_ltN (m := row.length) h h0 h1
  have hx := atI_nat hl
  have hg : row.getD (dN l row.length) .non = row[dN l row.length] := by simp [List.getElem?_eq_getElem hl]
  rw [hg]
  rcases hc with ⟨rfl, hk⟩ | ⟨rfl, rfl⟩
  · obtain rfl | rfl : k = 0 ∨ k = 1 := by omega
    all_goals simp -implicitDefEqProofs [c_pick, m_pick, hd, p_ixL, hx]
  · simp -implicitDefEqProofs [c_pick, m_pick, hd, p_ixT, hx]
theorem pickL_s {l : List D} {row : List D} {k : Nat} (hk : k ≤ 1) (h : DSl l) (h0 : 0 < row.length) (h1 : row.length < 1073741824) : c_pick [⟨.lst l, 1⟩, ⟨.lst row, k⟩] = .ok (⟨row.getD (dN l row.length) .non, 0⟩, [⟨.lst (dL l row.length), 1⟩, ⟨.lst row, k⟩]) := pick_s (.inl ⟨rfl, hk⟩) h h0 h1
theorem pickT_s {l : List D} {row : List D} (h : DSl l) (h0 : 0 < row.length) (h1 : row.length < 1073741824) : c_pick [⟨.lst l, 1⟩, ⟨.tup row, 0⟩] = .ok (⟨row.getD (dN l row.length) .non, 0⟩, [⟨.lst (dL l row.length), 1⟩, ⟨.tup row, 0⟩]) := pick_s (.inr ⟨rfl, rfl⟩) h h0 h1
theorem getD_mem {row : List D} {n : Nat} (h : n < row.length) : row.getD n .non ∈ row := by
  simp [List.getElem?_eq_getElem h]
theorem begin_s {ns : List Int} (hl : ns.length ≤ 63) : ∃ l, c_begin [⟨.scr (ns.map D.int), 0⟩] = .ok (⟨.lst l, 1⟩, [⟨.scr (ns.map D.int), 0⟩]) ∧ DSl l :=
  ⟨_, begin_ok hl, ns, 0, 0, 7, rfl, by decide, by decide, by decide⟩
theorem shuffled_s {l row : List D} {k : Nat} (h : DSl l) (hk : k ≤ 1) (h1 : row.length ≤ 16777216) : ∃ (row' l' : List D), c_shuffled [⟨.lst l, 1⟩, ⟨.lst row, k⟩] = .ok (⟨.lst row', 1⟩, [⟨.lst l', 1⟩, ⟨.lst row, k⟩]) ∧ DSl l' ∧ row'.Perm row := by
  obtain ⟨row', c', e, hc, hp⟩ := shuffled_ok h hk h1
  obtain ⟨l', rfl⟩ := hc.k
  exact ⟨row', l', e, hc, hp⟩

/-! ### small ones that each law wants -/
@[simp] theorem f_max2 {i j : Int} {k k' : Nat} : fMax [⟨.int i, k⟩, ⟨.int j, k'⟩] = .ok ⟨.int (if j > i then j else i), 0⟩ := rfl
@[simp] theorem f_min2 {i j : Int} {k k' : Nat} : fMin [⟨.int i, k⟩, ⟨.int j, k'⟩] = .ok ⟨.int (if j < i then j else i), 0⟩ := rfl
@[simp] theorem f_neI {i j : Int} {k k' : Nat} : fNe [⟨.int i, k⟩, ⟨.int j, k'⟩] = .ok ⟨.bl (!decide (i = j)), 0⟩ := by
  unfold fNe
  have e : D.eqv (.int i) (.int j) = decide (i = j) := by
    show (i == j) = _
    by_cases q : i = j <;> simp [q]
  simp only [D.okd, Bool.and_true, if_true, e]
  rfl
@[simp] theorem nL_len {ps : List Nat} : (nL ps).length = ps.length := by unfold nL; simp
@[simp] theorem iL_len {ps : List Int} : (iL ps).length = ps.length := by unfold iL; simp
@[simp] theorem len_nD {ps : List Nat} {k : Nat} : fLen [⟨nD ps, k⟩] = .ok ⟨.int ps.length, 0⟩ := by show R.ok (Cell.fz (.int (nL ps).length)) = _; rw [nL_len]; rfl
@[simp] theorem len_iD {ps : List Int} {k : Nat} : fLen [⟨iD ps, k⟩] = .ok ⟨.int ps.length, 0⟩ := by show R.ok (Cell.fz (.int (iL ps).length)) = _; rw [iL_len]; rfl
@[simp] theorem items_iD {l : List Int} : itemsOf (iD l) = some (iL l) := rfl
@[simp] theorem items_nD {l : List Nat} : itemsOf (nD l) = some (nL l) := rfl
theorem f_addT {l m : List D} {k k' : Nat} (h : l.length ≤ 10000) (h' : m.length ≤ 10000) : fAdd [⟨.tup l, k⟩, ⟨.tup m, k'⟩] = .ok ⟨.tup (l ++ m), 0⟩ := by
  unfold fAdd
  simp only
  rw [if_pos (by omega)]
  rfl
theorem cutD_to {l : List D} {k : Nat} (h : k ≤ l.length) : cutD l none (some (k : Int)) = l.take k := by
  unfold cutD
  rw [HT.sIx_none, HT.sIx_nat, Nat.min_eq_left h]
  simp
theorem cutD_from {l : List D} {k : Nat} (h : k ≤ l.length) : cutD l (some (k : Int)) none = l.drop k := by
  unfold cutD
  rw [HT.sIx_none, HT.sIx_nat, Nat.min_eq_left h, ← List.length_drop, List.take_length]
theorem cutD_both {l : List D} {i j : Nat} (hi : i ≤ l.length) (hj : j ≤ l.length) : cutD l (some (i : Int)) (some (j : Int)) = (l.drop i).take (j - i) := by
  unfold cutD
  rw [HT.sIx_nat, HT.sIx_nat, Nat.min_eq_left hi, Nat.min_eq_left hj]
theorem sl_T {l : List D} {k : Nat} {a b : Option Int} : fSl ⟨.tup l, k⟩ a b = .ok ⟨.tup (cutD l a b), 0⟩ := rfl
theorem rgD_nat' {n : Nat} : rgD 0 (n : Int) = (List.range n).map fun (i : Nat) => D.int (i : Int) := rgD_nat
theorem rg_from1 {n : Nat} : rgD 1 ((n : Int) + 1) = nL ((List.range n).map (· + 1)) := by
  unfold rgD nL
  rw [show ((n : Int) + 1 - 1).toNat = n by omega, List.map_map]
  apply List.map_congr_left
  intro i _
  show D.int _ = D.int _
  congr 1
  simp
  omega
theorem rgB_1 {n : Nat} (h : n ≤ 1000) : rgB 1 ((n : Int) + 1) = true := by
  unfold rgB
  rw [decide_eq_true_eq]
  omega
end Z

namespace P_k21
open Z PySem PySem.Spec PyProof.Rows L2 Sale
def lookD (d : D) : Prop := ∃ (u : Nat) (bs ts : List Int), d = wD u bs ts ∧ Sal u bs ts
def looksOk (l : List D) : Prop := ∀ d ∈ l, lookD d
theorem looksOk.app {l : List D} {u : Nat} {bs ts : List Int} (h : looksOk l) (hb : Sal u bs ts) : looksOk (l ++ [.tup [.int (u : Int), iD bs, iD ts]]) := fun d hd => by
  rw [List.mem_append, List.mem_singleton] at hd
  rcases hd with hd | rfl
  · exact h d hd
  · exact ⟨u, bs, ts, rfl, hb⟩
def lb1 : MS := (mSeq (mExpr (mMeth 4 fAppend [(mTup [(aVar 1), (mCall c__law_with [(aVar 2), (aVar 6), (aVar 8)]), (aVar 3)])])) mNext)
def lb2 : MS := (mSeq (mExpr (mMeth 4 fAppend [(mTup [(aVar 1), (aVar 2), (mCall c__law_with [(aVar 3), (aVar 6), (aVar 8)])])])) mNext)
def lb3 : MS := (mSeq (mSet 7 (mCall c__law_edge [(aVar 1), (aVar 2), (aVar 6)])) (mSeq (mFor (mItems (mTup [(aC (.int 0)), (aC (.int 1000000)), (mPrim fSub [(aVar 7), (aC (.int 1))]), (aVar 7), (mPrim fAdd [(aVar 7), (aC (.int 1))])])) (gN 8) lb1) (mSeq (mFor (mItems (mTup [(aC (.int 0)), (aC (.int 1000000)), (mPrim fSub [(mPrim fIx [(aVar 2), (aVar 6)]), (aC (.int 1))]), (mPrim fIx [(aVar 2), (aVar 6)]), (mPrim fAdd [(mPrim fIx [(aVar 2), (aVar 6)]), (aC (.int 1))])])) (gN 8) lb2) mNext)))
section
variable {w : D} {u k : Nat} {bs ts : List Int} (hS : Sal u bs ts) (hk : k < bs.length)
include hS hk
def lEnc (w : D) (u k : Nat) (bs ts : List Int) (x5 : Option Cell) (e : Int) (s : List D × Option Cell) : Z.Env := [some ⟨w, 0⟩, some ⟨.int (u : Int), 0⟩, some ⟨iD bs, 0⟩, some ⟨iD ts, 0⟩, some ⟨.lst s.1, 1⟩, x5, some ⟨.int (k : Int), 0⟩, some ⟨.int e, 0⟩, s.2]
theorem lb1_ok {x5 x8 : Option Cell} {e : Int} {l : List D} {xs : List Int} {it : ItD} (hit : it.chk = none) (hl : looksOk l) (hn : l.length + xs.length ≤ 5000) :
    ∃ s', loopF it (gN 8) lb1 [] (xs.map D.int) (lEnc w u k bs ts x5 e (l, x8)) = .ok (.next, lEnc w u k bs ts x5 e s') ∧ looksOk s'.1 ∧ s'.1.length = l.length + xs.length := by
  obtain ⟨s', e, h1, h2⟩ := for_rel (it := it) (g := gN 8) (body := lb1) (L := []) (ds := xs) (s := (l, x8)) D.int (lEnc w u k bs ts x5 e) (fun r s => looksOk s.1 ∧ s.1.length + r.length = l.length + xs.length) ⟨hl, rfl⟩
    (fun a r s ⟨h1, h2⟩ => by
      simp only [List.length_cons] at h2
      refine ⟨(s.1 ++ [.tup [.int (u : Int), iD (putB bs k a), iD ts]], some ⟨.int a, 0⟩), ?_, h1.app ?_, by simp; omega⟩
      · have hc : ∀ ρ, chkOk it ρ = true := fun ρ => by unfold chkOk; rw [hit]
        simp -implicitDefEqProofs [step1, lb1, lEnc, with_ok hk (show bs.length ≤ 100 by have := hS.2.2.2.1; omega), f_app (show s.1.length ≤ 10000 by omega), hc]
      · obtain ⟨a1, a2, a3, a4, a5, a6, a7⟩ := hS
        have := putB_len (x := a) hk
        exact ⟨a1, a2, by omega, by omega, by omega, putB_pos a6, a7⟩)
  exact ⟨s', e, h1, by simpa using h2⟩
theorem lb2_ok {x5 x8 : Option Cell} {e : Int} {l : List D} {xs : List Int} {it : ItD} (hit : it.chk = none) (hl : looksOk l) (hn : l.length + xs.length ≤ 5000) :
    ∃ s', loopF it (gN 8) lb2 [] (xs.map D.int) (lEnc w u k bs ts x5 e (l, x8)) = .ok (.next, lEnc w u k bs ts x5 e s') ∧ looksOk s'.1 ∧ s'.1.length = l.length + xs.length := by
  obtain ⟨s', e, h1, h2⟩ := for_rel (it := it) (g := gN 8) (body := lb2) (L := []) (ds := xs) (s := (l, x8)) D.int (lEnc w u k bs ts x5 e) (fun r s => looksOk s.1 ∧ s.1.length + r.length = l.length + xs.length) ⟨hl, rfl⟩
    (fun a r s ⟨h1, h2⟩ => by
      simp only [List.length_cons] at h2
      have hk' : k < ts.length := by rw [hS.2.2.2.2.1]; exact hk
      refine ⟨(s.1 ++ [.tup [.int (u : Int), iD bs, iD (putB ts k a)]], some ⟨.int a, 0⟩), ?_, h1.app ?_, by simp; omega⟩
      · have hc : ∀ ρ, chkOk it ρ = true := fun ρ => by unfold chkOk; rw [hit]
        have := hS.2.2.2.1
        have := hS.2.2.2.2.1
        simp -implicitDefEqProofs [step1, lb2, lEnc, with_ok hk' (show ts.length ≤ 100 by omega), f_app (show s.1.length ≤ 10000 by omega), hc]
      · obtain ⟨a1, a2, a3, a4, a5, a6, a7⟩ := hS
        have := putB_len (x := a) hk'
        exact ⟨a1, a2, by omega, by omega, by omega, a6, putB_pos a7⟩)
  exact ⟨s', e, h1, by simpa using h2⟩
end
def oEnc (w : D) (u : Nat) (bs ts : List Int) (s : List D × Option Cell × Option Cell × Option Cell) : Z.Env := [some ⟨w, 0⟩, some ⟨.int (u : Int), 0⟩, some ⟨iD bs, 0⟩, some ⟨iD ts, 0⟩, some ⟨.lst s.1, 1⟩, none, s.2.1, s.2.2.1, s.2.2.2]
theorem lb3_ok {w : D} {u : Nat} {bs ts : List Int} (hS : Sal u bs ts) {l : List D} {it : ItD} (hit : it.chk = none) (hl : looksOk l) (hn : l.length ≤ 100) :
    ∃ s', loopF it (gN 6) lb3 [] ((List.range bs.length).map fun (i : Nat) => D.int (i : Int)) (oEnc w u bs ts (l, none, none, none)) = .ok (.next, oEnc w u bs ts s') ∧ looksOk s'.1 := by
  obtain ⟨s', e, h1, h2, h3⟩ := for_rel (it := it) (g := gN 6) (body := lb3) (L := []) (ds := List.range bs.length) (s := (l, none, none, none)) (fun (i : Nat) => D.int (i : Int)) (oEnc w u bs ts) (fun r s => looksOk s.1 ∧ (∀ y ∈ r, y < bs.length) ∧ s.1.length + 10 * r.length = l.length + 10 * bs.length) ⟨hl, by simp, by simp⟩
    (fun a r s ⟨h1, h2, h3⟩ => by
      have ha := h2 a (List.mem_cons_self ..)
      simp only [List.length_cons] at h3
      have hb := hS.2.2.2.1
      obtain ⟨x, ex⟩ := edge_ok (bs := bs) hS.1 ha (by omega)
      obtain ⟨s1, e1, g1, n1⟩ := lb1_ok (w := w) hS ha (x5 := none) (e := x) (l := s.1) (x8 := s.2.2.2) (xs := [0, 1000000, x - 1, x, x + 1]) (it := ⟨[.int 0, .int 1000000, .int (x - 1), .int x, .int (x + 1)], none⟩) rfl h1 (by simp; omega)
      obtain ⟨s2, e2, g2, n2⟩ := lb2_ok (w := w) hS ha (x5 := none) (e := x) (l := s1.1) (x8 := s1.2) (xs := [0, 1000000, bd bs a - 1, bd bs a, bd bs a + 1]) (it := ⟨[.int 0, .int 1000000, .int (bd bs a - 1), .int (bd bs a), .int (bd bs a + 1)], none⟩) rfl g1 (by simp at n1 ⊢; omega)
      refine ⟨(s2.1, some ⟨.int (a : Int), 0⟩, some ⟨.int x, 0⟩, s2.2), ?_, g2, fun y hy => h2 y (List.mem_cons_of_mem _ hy), by simp at n1 n2 ⊢; omega⟩
      have hc : ∀ ρ, chkOk it ρ = true := fun ρ => by unfold chkOk; rw [hit]
      simp only [lEnc, List.map_cons, List.map_nil] at e1 e2
      simp -implicitDefEqProofs [step1, lb3, oEnc, ex, e1, ix_bd ha, e2, hc])
  exact ⟨s', e, h1⟩
theorem looks_ok {u : Nat} {bs ts : List Int} (hS : Sal u bs ts) : ∃ l, c__law_looks [⟨wD u bs ts, 0⟩] = .ok (⟨.lst l, 1⟩, [⟨wD u bs ts, 0⟩]) ∧ looksOk l := by
  have S' : ∀ {n : Nat}, 1 ≤ n → n ≤ 4 → Sal n bs ts := fun h1 h2 => ⟨h1, h2, hS.2.2⟩
  have h0 : looksOk [wD 1 bs ts, wD 2 bs ts, wD 3 bs ts, wD 4 bs ts] := fun d hd => by
    simp only [List.mem_cons, List.not_mem_nil, or_false] at hd
    rcases hd with rfl | rfl | rfl | rfl
    · exact ⟨_, _, _, rfl, S' (by decide) (by decide)⟩
    · exact ⟨_, _, _, rfl, S' (by decide) (by decide)⟩
    · exact ⟨_, _, _, rfl, S' (by decide) (by decide)⟩
    · exact ⟨_, _, _, rfl, S' (by decide) (by decide)⟩
  obtain ⟨s', e, h1⟩ := lb3_ok (w := wD u bs ts) hS (it := ⟨nL (List.range bs.length), none⟩) rfl h0 (by simp)
  refine ⟨s'.1, ?_, h1⟩
  have hr : rgD 1 5 = [D.int 1, .int 2, .int 3, .int 4] := rfl
  have hrb : rgB 1 5 = true := rfl
  have hb := hS.2.2.2.1
  have ew : ∀ n : Nat, wD n bs ts = .tup [.int (n : Int), iD bs, iD ts] := fun _ => rfl
  have ec := comp_m (it := ⟨[D.int 1, .int 2, .int 3, .int 4], none⟩) (g := gN 5) (tt := mYes) (me := mTup [(aVar 5), (aVar 2), (aVar 3)]) (vs := [5]) (ρ := [some ⟨wD u bs ts, 0⟩, some ⟨.int (u : Int), 0⟩, some ⟨iD bs, 0⟩, some ⟨iD ts, 0⟩, none, none, none, none, none]) id (fun d => .tup [d, iD bs, iD ts]) (ds := [D.int 1, .int 2, .int 3, .int 4]) (fun a _ => by simp [comp1])
  unfold lb3 lb1 lb2 oEnc at e
  simp only [ew, rgD_nL, nL] at e ec ⊢
  simp at e ec
  simp -implicitDefEqProofs [c__law_looks, m__law_looks, hr, hrb, ec, rgB_nat (show bs.length ≤ 16777216 by omega), rgD_nL, nL, e]
end P_k21

namespace P_k21
open Z PySem PySem.Spec PyProof.Rows L2 Sale
def bodyI : MS := (mSeq (mIf (mOrT (mNotT (mTest (mCall c__law_sale_right [(aVar 6), (aVar 7), (aVar 5)]))) (mNotT (mTest (mCall c__law_posted_right [(aVar 6), (aVar 8), (aVar 7), (aVar 5)])))) (mSeq (mRet (aC (.bl false))) mNext) mNext) mNext)
def bodyO : MS := (mSeq (mSet 5 (mPrim fEq [(aVar 4), (mPrim fSub [(mPrim fLen [(aVar 2)]), (aC (.int 1))])])) (mSeq (mFor (mItems (mCall c__law_looks [(mPrim fIx [(aVar 2), (aVar 4)])])) (gT 3 (gsCons (gN 6) (gsCons (gN 7) (gsCons (gN 8) gsNil)))) bodyI) mNext))
theorem pos.bd {is : List Int} (h : pos is) : ∀ p, 0 ≤ bd is p := fun p => by
  unfold Sale.bd
  rw [List.getD_eq_getElem?_getD]
  cases e : is[p]? with
  | none => simp
  | some b => exact h b (List.mem_of_getElem? e)
def iEnc (sd : D) (c1 : Cell) (ws : List D) (i : Int) (b : Bool) (s : Option Cell × Option Cell × Option Cell) : Z.Env := [some ⟨sd, 0⟩, some c1, some ⟨.lst ws, 1⟩, none, some ⟨.int i, 0⟩, some ⟨.bl b, 0⟩, s.1, s.2.1, s.2.2]
theorem bodyI_ok {sd : D} {c1 : Cell} {ws : List D} {i : Int} {b : Bool} {s : Option Cell × Option Cell × Option Cell} {l : List D} (hl : looksOk l) : ∃ s', loopF ⟨l, none⟩ (gT 3 (gsCons (gN 6) (gsCons (gN 7) (gsCons (gN 8) gsNil)))) bodyI [] l (iEnc sd c1 ws i b s) = .ok (.next, iEnc sd c1 ws i b s') := by
  obtain ⟨s', e, _⟩ := for_rel (it := ⟨l, none⟩) (g := (gT 3 (gsCons (gN 6) (gsCons (gN 7) (gsCons (gN 8) gsNil))))) (body := bodyI) (L := []) (ds := l) (s := s) id (iEnc sd c1 ws i b) (fun r s => looksOk r) hl
    (fun a r s h => by
      obtain ⟨u, bs, ts, rfl, hS⟩ := h a (List.mem_cons_self ..)
      refine ⟨(some ⟨.int u, 0⟩, some ⟨iD bs, 0⟩, some ⟨iD ts, 0⟩), ?_, fun d hd => h d (List.mem_cons_of_mem _ hd)⟩
      obtain ⟨a1, a2, a3, a4, a5, a6, a7⟩ := hS
      simp -implicitDefEqProofs [step1, bodyI, iEnc, wD, sale_right_ok (u := u) (bs := bs) (by omega) (by omega) (pos.bd a6) b, posted_right_ok (u := u) a5 (by omega) b])
  simp only [List.map_id] at e
  exact ⟨s', e⟩
theorem pure_law (ns : List Int) (hl : ns.length ≤ 63) : ∃ fs, c_law [⟨.scr (ns.map D.int), 0⟩] = .ok (Cell.fz (.bl true), fs) := by
  obtain ⟨l0, hb, hd0⟩ := begin_s hl
  have hlen : fLen [⟨.scr (ns.map D.int), 0⟩] = .ok ⟨.int ns.length, 0⟩ := by rw [len_scr]; simp
  obtain ⟨k, hk, hk2⟩ : ∃ k : Nat, 1 + (if (ns.length : Int) / 5 < 2 then (ns.length : Int) / 5 else 2) = (k : Int) ∧ 1 ≤ k ∧ k ≤ 3 := by
    refine ⟨(1 + (if (ns.length : Int) / 5 < 2 then (ns.length : Int) / 5 else 2)).toNat, ?_, ?_⟩ <;> split <;> omega
  generalize D.scr (ns.map D.int) = sd at *
  obtain ⟨l1, out, e, h1, h2, h3⟩ := comp_rel (it := ⟨nL (List.range k), none⟩) (g := gN 3) (tt := mYes) (me := mCall c__law_world [aVar 1]) (vs := [3]) (ds := List.range k) (s := l0) (acc := []) (fun (i : Nat) => D.int (i : Int)) (fun l => [some ⟨sd, 0⟩, some ⟨.lst l, 1⟩, none, none, none, none, none, none, none])
    (fun r l acc => DSl l ∧ looksOk acc ∧ acc.length + r.length = k) ⟨hd0, fun _ h => by simp at h, by simp⟩
    (fun a r l acc ⟨h1, h2, h3⟩ => by
      simp only [List.length_cons] at h3
      obtain ⟨u, bs, ts, c', e', hc, hS⟩ := world_ok h1
      obtain ⟨l', rfl⟩ := hc.k
      refine ⟨l', some (wD u bs ts), ?_, hc, h2.app hS, by simp; omega⟩
      simp -implicitDefEqProofs [comp1, e'])
  simp only [List.nil_append, List.length_nil, Nat.add_zero] at h2 h3
  obtain ⟨w0, ws, rfl⟩ : ∃ w0 ws, out = w0 :: ws := by
    cases out with
    | nil => simp at h3; omega
    | cons w0 ws => exact ⟨w0, ws, rfl⟩
  have hall : looksOk (w0 :: ws ++ [w0]) := fun d hd => by
    rw [List.mem_append, List.mem_singleton] at hd
    rcases hd with hd | rfl
    · exact h2 d hd
    · exact h2 d (List.mem_cons_self ..)
  have ha := f_app (l := w0 :: ws) (d := w0) (by omega)
  generalize hW : w0 :: ws ++ [w0] = W at *
  have hWl : W.length = k + 1 := by rw [← hW]; simp at h3 ⊢; omega
  obtain ⟨s', e2, _⟩ := for_rel (it := ⟨nL (List.range W.length), none⟩) (g := gN 4) (body := bodyO) (L := []) (ds := List.range W.length) (s := (none, none, none, none, none)) (fun (i : Nat) => D.int (i : Int)) (fun s : Option Cell × Option Cell × Option Cell × Option Cell × Option Cell => [some ⟨sd, 0⟩, some ⟨.lst l1, 1⟩, some ⟨.lst W, 1⟩, none, s.1, s.2.1, s.2.2.1, s.2.2.2.1, s.2.2.2.2])
    (fun r s => ∀ y ∈ r, y < W.length) (by simp)
    (fun a r s h => by
      have hy := h a (List.mem_cons_self ..)
      obtain ⟨u, bs, ts, ew, hS⟩ := hall W[a] (List.getElem_mem hy)
      have hx : fIx [⟨.lst W, 1⟩, ⟨.int (a : Int), 0⟩] = .ok ⟨wD u bs ts, 0⟩ := p_ixL (by decide) ((atI_nat hy).trans (by rw [ew]))
      obtain ⟨l, el, gl⟩ := looks_ok hS
      obtain ⟨s1, ei⟩ := bodyI_ok (sd := sd) (c1 := ⟨.lst l1, 1⟩) (ws := W) (i := (a : Int)) (b := decide ((a : Int) = (W.length : Int) - 1)) (s := (s.2.2.1, s.2.2.2.1, s.2.2.2.2)) gl
      refine ⟨(some ⟨.int (a : Int), 0⟩, some ⟨.bl (decide ((a : Int) = (W.length : Int) - 1)), 0⟩, s1.1, s1.2.1, s1.2.2), ?_, fun y hy => h y (List.mem_cons_of_mem _ hy)⟩
      unfold iEnc at ei
      simp -implicitDefEqProofs [step1, bodyO, hx, el, ei])
  refine ⟨[⟨sd, 0⟩], ?_⟩
  unfold bodyO bodyI at e2
  have hrl : (nL (List.range k)).length ≤ 16777216 := by simp; omega
  rw [show (List.range k).map (fun (i : Nat) => D.int (i : Int)) = nL (List.range k) from rfl] at e
  rw [show (List.range W.length).map (fun (i : Nat) => D.int (i : Int)) = nL (List.range W.length) from rfl] at e2
  simp -implicitDefEqProofs at hrl
  simp -implicitDefEqProofs [c_law, m_law, hb, hlen, p_div, hk, rgB_nat (show k ≤ 16777216 by omega), hrl, rgD_nL, e, p_ixL, ha, rgB_nat (show W.length ≤ 16777216 by omega), e2]
end P_k21
theorem PySem.Challenge.cw_plainhearing_k21_sales_and_posted_holds : PySem.Challenge.rw_plainhearing_k21_sales_and_posted.Holds := by
  exact P_k21.end_ P_k21.pure_law

