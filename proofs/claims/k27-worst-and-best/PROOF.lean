import PyProof.Rows.All
import Wide.All
import OpenK.AllK
import Wide.FinOn
import HandS.ForMost
import HandS.TupAny
import HandS.Deep
import HandS.Conv
import HandS.IsInst
import HandS.Flow
import HandS.Defaults
import HandS.Strs
import HandS.HeadEnd
import HandS.SortRule
import HandS.SortInts
import HandS.TupSets
import HandS.Iter
import HandS.Comp
import HandS.Style
import HandS.TupLe
import PyProof.ReprRoads
import PyProof.StrLawsRepr
import HandS.FStrTup
import KE.KStateDown
import Lean
import HandS.Head0
import HandS.Head1
import HandS.Head2
import HandS.HeadHook1
import HandS.HeadHook2
import PySem.Challenge.RW_plainhearing_k27_worst_and_best
set_option Elab.async false
set_option linter.all false
set_option maxRecDepth 100000
set_option maxHeartbeats 0
/-! Z0: tuples whose object is known, tuple.index, the item of a list as it is read in an augmented store. -/
namespace Z
open PySem PySem.Spec PyProof.Rows L2
section
variable {X : Cx}
/-- a tuple laid: its object is known -/
theorem Inv.tupF {pins : List (Addr × Obj)} {σ : L2.St} {H : Hp} {s : Shared} {a : Addr} {xs : List V} {its : List Value} {h' : Heap} {t' : Nat} (I : Inv X pins σ H s) (k : ∀ b u, s.heap.get? b = some u → h'.get? b = some u) (hp : s.heap.objs.size ≤ a)
    (e : h'.get? a = some { cls := .type "tuple", data := .seq its.toArray }) (r : Vals xs its) (hz : xs.length ≤ sizeLine) : Inv X pins σ (upd H a (.frz { cls := .type "tuple", data := .seq its.toArray } (.tup xs))) { s with heap := h', toks := t' } :=
  I.laid k hp ⟨e, hz, its, r, ⟨_, e, rfl, _, rfl⟩⟩
def tTupF (t : TA) : TE := fun σ H Q => t σ H fun xs H1 => xs.length ≤ sizeLine ∧ ∀ p o, H1 p = none → o.dict = none → Q (.ref p) (upd H1 p (.frz o (.tup xs)))
theorem pe_tupF {es : List Expr} {t : TA} {pos : Pos} {x1 : Nat} (h : PA X es t) : PE X (.Tuple es x1 pos) (tTupF t) := by
  refine ⟨fun pins s σ H Q I hq => ?_⟩
  refine wpAny_Tuple_spliced (thn (h.run pos pins s σ H _ I hq) fun us s1 ⟨xs, H1, I1, r, z, q⟩ => ⟨by rw [← r.length]; exact z, ?_⟩)
  have hf : H1 s1.heap.objs.size = none := I1.hok.fresh (Nat.le_refl _)
  exact ⟨.ref s1.heap.objs.size, _, Inv.tupF (t' := s1.toks) I1 (fun b u e => Heap.get?_push_of_some _ e) (Nat.le_refl _) (Heap.get?_push_size _ rfl) r z, rfl, q _ _ hf rfl⟩
theorem call_tuple_ofF : CallR X (.type "tuple") (fun xs H Q => ∃ p ys, xs = [.ref p] ∧ ((SqL X.K H p ys ∧ ∀ l o, H l = none → o.dict = none → Q (.ref l) (upd H l (.frz o (.tup ys)))) ∨ (SqT X.K H p ys ∧ Q (.ref p) H))) := by
  intro pins s σ H xs us Q I r h
  obtain ⟨p, ys, rfl, h⟩ := h
  obtain ⟨u, rfl, rx⟩ := vals1 r
  cases rx
  rcases h with ⟨hq, q⟩ | ⟨hq, q⟩
  · obtain ⟨its, r', pl, hz⟩ := I.list hq
    have hlen := r'.length
    refine call_tuple_list pl.isList (fun h' kp => ?_) (by simp only [List.size_toArray] <;> omega)
    have I1 : Inv X pins σ H { s with heap := h' } := I.kept (t' := s.toks) kp
    have I2 := Inv.tupF (h' := h'.push { cls := .type "tuple", data := .seq its.toArray }) (t' := s.toks) I1 (fun b o e => Heap.get?_push_of_some _ e) (Nat.le_refl _) (Heap.get?_push_size _ rfl) r' hz
    exact ⟨.ref h'.objs.size, _, I2, rfl, q _ _ (I1.hok.fresh (Nat.le_refl _)) rfl⟩
  · obtain ⟨its, r', pl, hz⟩ := I.tuple hq
    exact call_tuple_same pl ⟨.ref p, H, I, rfl, q⟩
def rCatF (K : PySem.W.Frag) : R2 := fun x y H Q => ∃ a b xs ys, x = .ref a ∧ y = .ref b ∧ SqT K H a xs ∧ SqT K H b ys ∧ xs.length + ys.length ≤ sizeLine ∧
  (xs = [] → Q (.ref b) H) ∧ (xs ≠ [] → ys = [] → Q (.ref a) H) ∧ (xs ≠ [] → ys ≠ [] → ∀ p o, H p = none → o.dict = none → Q (.ref p) (upd H p (.frz o (.tup (xs ++ ys)))))
theorem op_catF : OpR X (binaryOp .Add) (rCatF X.K) := by
  intro pins s σ H x y v u Q I rx ry h
  obtain ⟨a, b, xs, ys, rfl, rfl, ha, hb, hz, q0, q1, q2⟩ := h
  cases rx
  cases ry
  obtain ⟨its, r1, p1, _⟩ := I.tuple ha
  obtain ⟨its2, r2, p2, _⟩ := I.tuple hb
  by_cases hx : xs = []
  · subst hx
    cases r1
    exact cat_tup0 p1 p2 ⟨.ref b, H, I, rfl, q0 rfl⟩
  · refine HT.cat_tup p1 p2 (fun z => hx (r1.nil_iff.mp z)) (fun z => ⟨.ref a, H, I, rfl, q1 hx (r2.nil_iff.mp z)⟩) (fun z => ?_) (by rw [← r1.length, ← r2.length]; exact hz)
    exact ⟨.ref s.heap.objs.size, _, Inv.tupF (t' := s.toks) I (fun b ob q => Heap.get?_push_of_some _ q) (Nat.le_refl _) (Heap.get?_push_size _ rfl) (r1.append r2) (by rw [List.length_append]; exact hz), rfl, q2 hx (fun w => z (r2.nil_iff.mpr w)) _ _ (I.hok.fresh (Nat.le_refl _)) rfl⟩
def rSlF (K : PySem.W.Frag) : V → Option Int → Option Int → Hp → VK → Prop := fun x lo hi H Q => ∃ a xs, x = .ref a ∧ SqT K H a xs ∧
  (HT.sIx xs.length 0 lo = 0 ∧ HT.sIx xs.length xs.length hi = xs.length → Q (.ref a) H) ∧ (¬ (HT.sIx xs.length 0 lo = 0 ∧ HT.sIx xs.length xs.length hi = xs.length) → ∀ p o, H p = none → o.dict = none → Q (.ref p) (upd H p (.frz o (.tup (cutV xs lo hi)))))
theorem sl_tupF : SlR X (rSlF X.K) := by
  intro pins s σ H x v vl vu lo hi sl Q I rx hs pl pu h
  obtain ⟨a, xs, rfl, hx, q1, q2⟩ := h
  cases rx
  obtain ⟨its, r, ht, hz⟩ := I.tuple hx
  have hlen : its.toArray.size = xs.length := by rw [List.size_toArray]; exact r.length.symm
  by_cases hw : HT.sIx xs.length 0 lo = 0 ∧ HT.sIx xs.length xs.length hi = xs.length
  · refine ⟨"tuple", _, PyProof.Rows.slot_tuple_getitem.lookup, ht.typeIs, ?_⟩
    exact getItem_tuple_whole ht hs pl pu (by rw [hlen]; exact hw) ⟨.ref a, H, I, rfl, q1 hw⟩
  · refine ⟨"tuple", _, PyProof.Rows.slot_tuple_getitem.lookup, ht.typeIs, ?_⟩
    refine HT.getItem_tuple_cut ht hs pl pu (by rw [hlen]; exact hw) ?_ (by rw [hlen]; exact hz)
    rw [hlen]
    exact ⟨.ref s.heap.objs.size, _, Inv.tupF (t' := s.toks) I (fun b ob q => Heap.get?_push_of_some _ q) (Nat.le_refl _) (Heap.get?_push_size _ rfl) ((r.drop (HT.sIx xs.length 0 lo)).take (HT.sIx xs.length xs.length hi - HT.sIx xs.length 0 lo)) (Nat.le_trans (cutV_length xs lo hi) hz), rfl, q2 hw _ _ (I.hok.fresh (Nat.le_refl _)) rfl⟩
def tTupRgF (te : L2.St → Hp → (Int → Int → Hp → Prop) → Prop) : TE := fun σ H Q => te σ H fun a b H1 => RgOk a b ∧ ∀ q o, H1 q = none → o.dict = none → Q (.ref q) (upd H1 q (.frz o (.tup (rgV a b))))
theorem pe_tupRgF {e : Expr} {te : L2.St → Hp → (Int → Int → Hp → Prop) → Prop} {p pos : Pos} (hc : X.calm = true) (hg : Gl X "tuple") (hm : X.mg "tuple" = none) (he : PRg X e te) (na : starEach [e] X.env = (false, eval e X.env) :: starEach [] X.env := by rfl) : PE X (.Call (.Name "tuple" p) [e] [] pos) (tTupRgF te) := by
  refine ⟨fun pins s σ H Q I h => ?_⟩
  refine Call_ (ld_blt I hg hm boot_tuple (PyProof.Rows.callWith_type1 (args_cons (thn (he pins s σ H _ I h) fun x s1 ⟨r, a, b, t, u, v, H1, ex, hr, I1, ok, q⟩ => args_nil ?_) na) na))
  subst ex
  obtain ⟨b1, b2, b3, b4, b5⟩ := ok
  refine call_tuple_range (n := (b - a).toNat) (I1.ok.hd hc) hr (small_one b1 b2 b3 b4) (rangeSize_nat a b) b5 fun h' tk acc hk hi => ?_
  have I2 : Inv X pins σ H1 { s1 with heap := h', toks := tk } := I1.kept hk
  have I3 := Inv.tupF (a := h'.objs.size) (its := acc.toList) (h' := h'.push { cls := .type "tuple", data := .seq acc }) (t' := tk) I2 (fun c o e => Heap.get?_push_of_some _ e) (Nat.le_refl _) (by rw [Array.toArray_toList]; exact Heap.get?_push_size _ rfl) (vals_rg hi) (by rw [rgV_length, sizeLine_eq]; omega)
  exact ⟨.ref h'.objs.size, _, I3, rfl, q _ _ (I2.hok.fresh (Nat.le_refl _)) rfl⟩

/-! ### tuple.index of data -/
/-- a tuple as a method's receiver -/
def TupRc (K : PySem.W.Frag) (H : Hp) (p : Addr) : Prop := (∃ o xs, H p = some (.frz o (.tup xs)) ∧ o.dict = none) ∨ ∃ o, K.lookup p = some o ∧ o.cls = .type "tuple" ∧ o.dict = none
theorem tupRc_is {pins : List (Addr × Obj)} {σ : L2.St} {H : Hp} {s : Shared} {p : Addr} (I : Inv X pins σ H s) (h : TupRc X.K H p) : s.TypeIs (.ref p) "tuple" ∧ ∀ a, Value.ref p = .ref a → ∃ ob, s.heap.get? a = some ob ∧ ob.dict = none := by
  rcases h with ⟨o, xs, hp, hd⟩ | ⟨o, hk, hc, hd⟩
  · obtain ⟨e, _, its, _, o', e', c', _⟩ := I.hok p _ hp
    exact ⟨⟨o', e', c'⟩, fun a q => by cases q; exact ⟨o, e, hd⟩⟩
  · exact ⟨⟨o, I.kIn p o hk, hc⟩, fun a q => by cases q; exact ⟨o, I.kIn _ o hk, hd⟩⟩
def tTM (K : PySem.W.Frag) (r : V → List V → Hp → VK → Prop) (to : TE) (t : TA) : TE := fun σ H Q => to σ H fun x H1 => (∃ p, x = .ref p ∧ TupRc K H1 p) ∧ t σ H1 fun xs H2 => r x xs H2 Q
theorem pe_tm {o e : Expr} {es : List Expr} {to : TE} {t : TA} {name : Str} {apos cpos : Pos} {id : String} {r : V → List V → Hp → VK → Prop} (slot : Slot "tuple" name id) (hty : typeOf (.builtin id) = pure (.type "method_descriptor")) (hm : MtR X id r) (ho : PE X o to) (ha : PA X (e :: es) t)
    (hbase : attributeBase o name X.env (eval o X.env) = eval o X.env := by rfl)
    (hfew : ((backTo cpos (starEach (e :: es) X.env)).all (fun x => !x.1) && (backToKw cpos (keywordEach [] X.env)).all (fun x => x.1.isSome)
      && decide ((e :: es).length + ([] : List Keyword).length + (if ([] : List Keyword).isEmpty then 0 else 1) < 30)) = true := by rfl)
    (hline : (apos.endLine == cpos.line) = true := by rfl) (hs : starEach (e :: es) X.env = (false, eval e X.env) :: starEach es X.env := by rfl) (hplain : (backTo cpos (starEach es X.env)).any (·.1) = false := by rfl) :
    PE X (.Call (.Attribute o name apos) (e :: es) [] cpos) (tTM X.K r to t) := by
  refine ⟨fun pins s σ H Q I h => ?_⟩
  refine wpAny_Call_method_late hbase hfew hline rfl (thn (ho.run pins s σ H _ I h) fun v s1 ⟨x, H1, I1, r1, ⟨p, ex, ty⟩, q1⟩ => ?_)
  subst ex
  cases r1
  obtain ⟨h1, h2⟩ := tupRc_is I1 ty
  refine ⟨"tuple", id, PySem.F.plainAttrs_tuple, slot, hty, h1, h2, ?_⟩
  have hA := ha.run cpos pins s1 σ H1 _ I1 q1
  rw [hs] at hA ⊢
  refine Calls.callWith_builtin (by show (false || (backTo cpos (starEach es X.env)).any (·.1)) = false; rw [hplain] <;> rfl) (Calls.evalArgs_plain ?_)
  exact thn hA fun us s2 ⟨vs, H2, I2, r2, q2⟩ => hm pins s2 σ H2 (.ref p) vs _ us Q I2 rfl r2 q2
def rTIndexD (K : PySem.W.Frag) : V → List V → Hp → VK → Prop := fun x xs H Q => ∃ (a : Addr) (y : V) (d : PyData) (ds : List PyData) (j : Nat) (z : PyData), x = V.ref a ∧ xs = [y] ∧ Dp K H (V.ref a) (.tuple ds) ∧ Dp K H y d ∧
  SeqAt.shaped (.tuple ds) = true ∧ SeqAt.shaped d = true ∧ ds[j]? = some z ∧ PyData.eqv z d = true ∧ (∀ (m : Nat) (z' : PyData), m < j → ds[m]? = some z' → PyData.eqv z' d = false) ∧ Q (.int (j : Nat)) H
theorem mt_tindexD (hu : X.A.units + 65 < cLine) : MtR X "tuple.index" (rTIndexD X.K) := by
  intro pins s σ H x xs v us Q I rx rxs h
  obtain ⟨a, y, d, ds, j, z, rfl, rfl, hl, hy, sl, sd, hz, hzj, hno, q⟩ := h
  cases rx
  cases rxs with
  | cons ry rt =>
    rename_i uy ut
    cases rt
    obtain ⟨bs, r1⟩ := Dp.reads I d y uy hy ry
    have hxs : PyData.canLayAll0 ds = true := SeqAt.canLay_of_shaped sl
    have hroom : X.A.units + 1 + min (PyData.depthAll ds) d.depth < cLine := room_in_shaped sd hu
    cases hl with
    | tup hs ha =>
      obtain ⟨its, rv, ⟨⟨cls, dd, data, sls⟩, ho, hc, n, hdt⟩, hlen⟩ := I.tuple hs
      simp only at hc hdt
      subst hc hdt
      obtain ⟨as, h4⟩ := Dp.readsAll I ds _ its ha rv
      have hn : its.length = ds.length := SeqAt.ReadsAll.length ds its as h4
      have hmap : its.map (SeqAt.readOf s.heap) = ds := SeqAt.readsAll_map ds its as hxs h4
      have hvl := rv.length
      have hsl := sizeLine_eq
      obtain ⟨hjd, _⟩ := List.getElem?_eq_some_iff.mp hz
      have hjl : j < its.length := by omega
      have hj : j < its.toArray.size := by simpa using hjl
      have at_ : ∀ (m : Nat) (hm : m < its.toArray.size) (z' : PyData), ds[m]? = some z' → SeqAt.readOf s.heap its.toArray[m] = z' := by
        intro m hm z' hz'
        have hml : m < its.length := by simpa using hm
        rw [← hmap, List.getElem?_map, List.getElem?_eq_getElem hml] at hz'
        have e1 : SeqAt.readOf s.heap its[m] = z' := Option.some.inj (show some (SeqAt.readOf s.heap its[m]) = some z' from hz')
        simpa using e1
      refine call_meets PySem.F.slot_tuple_index ⟨_, ho, rfl⟩ PySem.F.entry_tuple_index (PySem.F.args_tuple_index_2 _ _)
        (TI.tuple_indexAt a its.toArray n dd sls uy (fun u => PyData.eqv (SeqAt.readOf s.heap u) d) j hj ?_ ?_) ⟨ho, SeqAt.items_eqAt (vs := its.toArray) (show ReadsAll s.heap its.toArray.toList ds as from h4) r1 hxs (SeqAt.canLay_of_shaped sd) hroom, ?_⟩
      · show PyData.eqv (SeqAt.readOf s.heap its.toArray[j]) d = true
        rw [at_ j hj z hz]
        exact hzj
      · intro m hm hmj
        have hmd : m < ds.length := by omega
        have hz' : ds[m]? = some ds[m] := List.getElem?_eq_getElem hmd
        show PyData.eqv (SeqAt.readOf s.heap its.toArray[m]) d = false
        rw [at_ m hm _ hz']
        exact hno m _ hmj hz'
      · exact ⟨.int (j : Nat), H, I.tok _, ⟨_, rfl⟩, q⟩

/-! ### xs[i] read by values, for xs[i] op= e -/
theorem get_list : PGet X (rIxL X.K) := by
  intro pins s σ H o i ov iv Q I ro ri h
  obtain ⟨p, xs, k, z, rfl, rfl, hq, he, q⟩ := h
  cases ro
  obtain ⟨t, rfl⟩ := ri
  obtain ⟨its, r, pl, hz⟩ := I.list hq
  obtain ⟨j, h1, h2, h3, h4, h5⟩ := atI_get he
  obtain ⟨w, ew, rw'⟩ := r.get h2
  have hl := r.length
  have hn := line63
  have fin : EP X pins σ Q w s := ⟨z, H, I, rw', q⟩
  by_cases h0 : 0 ≤ k
  · have hj : k.toNat = j := by
      rw [seqIndex_of h0 h5] at h1
      exact Option.some.inj h1
    exact wpAny_getItem_list pl.isList h0 (by omega) (by rw [hj]; simpa using ew) fin
  · have hj : (k + (its.toArray.size : Int)).toNat = j := by
      rw [seqIndex_neg (by omega) h4] at h1
      rw [List.size_toArray, ← hl]
      exact Option.some.inj h1
    exact wpAny_getItem_list_neg pl.isList (by omega) (by rw [List.size_toArray] <;> omega) (by omega) (by rw [hj]; simpa using ew) fin
end
end Z

/-! Z: values without a heap, and how they lie in the heap. -/
namespace Z
open PySem PySem.Spec PyProof.Rows L2

inductive D where
  | non | bl (b : Bool) | int (i : Int) | str (x : Str) | tup (l : List D) | lst (l : List D) | dct (ks : List Key) (l : List D) | scr (l : List D)
  deriving Inhabited

mutual
def D.beq : D → D → Bool
  | .non, .non => true
  | .bl a, .bl b => a == b
  | .int a, .int b => a == b
  | .str a, .str b => a == b
  | .tup a, .tup b => D.beqL a b
  | .lst a, .lst b => D.beqL a b
  | .dct k a, .dct j b => decide (k = j) && D.beqL a b
  | .scr a, .scr b => D.beqL a b
  | _, _ => false
def D.beqL : List D → List D → Bool
  | [], [] => true
  | x :: xs, y :: ys => D.beq x y && D.beqL xs ys
  | _, _ => false
end
mutual
theorem D.beq_self : ∀ d : D, d.beq d = true
  | .non => by simp [D.beq]
  | .bl _ => by simp [D.beq]
  | .int _ => by simp [D.beq]
  | .str _ => by simp [D.beq]
  | .tup l => by simp [D.beq, D.beqL_self l]
  | .lst l => by simp [D.beq, D.beqL_self l]
  | .dct _ l => by simp [D.beq, D.beqL_self l]
  | .scr l => by simp [D.beq, D.beqL_self l]
theorem D.beqL_self : ∀ l : List D, D.beqL l l = true
  | [] => by simp [D.beqL]
  | x :: xs => by simp [D.beqL, D.beq_self x, D.beqL_self xs]
end
mutual
theorem D.beq_eq : ∀ d e : D, d.beq e = true → d = e
  | .non, e, h => by cases e <;> simp [D.beq] at h <;> rfl
  | .bl _, e, h => by cases e <;> simp [D.beq] at h <;> simp [h]
  | .int _, e, h => by cases e <;> simp [D.beq] at h <;> simp [h]
  | .str _, e, h => by cases e <;> simp [D.beq] at h <;> simp [h]
  | .tup l, e, h => by cases e <;> simp [D.beq] at h <;> rw [D.beqL_eq _ _ h]
  | .lst l, e, h => by cases e <;> simp [D.beq] at h <;> rw [D.beqL_eq _ _ h]
  | .dct _ l, e, h => by cases e <;> simp [D.beq] at h <;> rw [h.1, D.beqL_eq _ _ h.2]
  | .scr l, e, h => by cases e <;> simp [D.beq] at h <;> rw [D.beqL_eq _ _ h]
theorem D.beqL_eq : ∀ l m : List D, D.beqL l m = true → l = m
  | [], m, h => by cases m <;> simp [D.beqL] at h <;> rfl
  | x :: xs, m, h => by
    cases m with
    | nil => simp [D.beqL] at h
    | cons y ys => simp [D.beqL] at h; rw [D.beq_eq _ _ h.1, D.beqL_eq _ _ h.2]
end
instance : DecidableEq D := fun a b => if h : D.beq a b = true then .isTrue (D.beq_eq a b h) else .isFalse fun e => h (e ▸ D.beq_self a)

/-! ### who may write -/
inductive Own where
  | no | out | sl (i : Nat) | tm (n : Nat)
  deriving DecidableEq
abbrev OM := Addr → Own
def OM.re (w : OM) (o o' : Own) : OM := fun a => if w a = o then o' else w a
theorem OM.re_eq {w : OM} {o o' : Own} {a : Addr} (h : w a = o) : w.re o o' a = o' := by unfold OM.re; rw [if_pos h]
theorem OM.re_ne {w : OM} {o o' : Own} {a : Addr} (h : w a ≠ o) : w.re o o' a = w a := by unfold OM.re; rw [if_neg h]
def OM.put (w : OM) (p : Addr) (o : Own) : OM := fun a => if a = p then o else w a
theorem OM.put_same {w : OM} {p : Addr} {o : Own} : w.put p o p = o := by unfold OM.put; rw [if_pos rfl]
theorem OM.put_ne {w : OM} {p a : Addr} {o : Own} (h : a ≠ p) : w.put p o a = w a := by unfold OM.put; rw [if_neg h]

section
variable (K : PySem.W.Frag) (H : Hp) (w : OM)
def TupAt (a : Addr) (vs : List V) : Prop := ((∃ o, H a = some (.frz o (.tup vs)) ∧ o.dict = none) ∧ w a = .no) ∨
  ∃ (o : Obj) (its : Array Value) (n : Nat), K.lookup a = some o ∧ o.cls = .type "tuple" ∧ o.dict = none ∧ o.data = .seq its n ∧ its.size ≤ sizeLine ∧ Vals vs its.toList
def LstAt (a : Addr) (vs : List V) : Prop := (Rd H a (.lst vs) ∧ w a = .no) ∨
  ∃ (o : Obj) (its : Array Value) (n : Nat), K.lookup a = some o ∧ o.cls = .type "list" ∧ o.dict = none ∧ o.data = .seq its n ∧ its.size ≤ sizeLine ∧ Vals vs its.toList
mutual
/-- a value that nobody changes any more -/
inductive Fz : D → V → Prop
  | non : Fz .non .non
  | bl (b : Bool) : Fz (.bl b) (.bl b)
  | int (i : Int) : Fz (.int i) (.int i)
  | str (x : Str) : Fz (.str x) (.str x)
  | tup {a : Addr} {vs : List V} {ds : List D} : TupAt K H w a vs → FzL ds vs → Fz (.tup ds) (.ref a)
  | lst {a : Addr} {vs : List V} {ds : List D} : H a = some (.lst vs) → w a = .no → FzL ds vs → Fz (.lst ds) (.ref a)
  | scr {a : Addr} {vs : List V} {ds : List D} : LstAt K H w a vs → FzL ds vs → Fz (.scr ds) (.ref a)
  | dct {a : Addr} {kvs : List (Key × V)} {ks : List Key} {ds : List D} : Rd H a (.dK kvs) → w a = .no → kvs.map (·.1) = ks → FzL ds (kvs.map (·.2)) → Fz (.dct ks ds) (.ref a)
inductive FzL : List D → List V → Prop
  | nil : FzL [] []
  | cons {d : D} {v : V} {ds : List D} {vs : List V} : Fz d v → FzL ds vs → FzL (d :: ds) (v :: vs)
end
inductive Ow1L (o : Own) : List D → List V → Prop
  | nil : Ow1L o [] []
  | cons {a : Addr} {ws : List V} {e : List D} {ds : List D} {vs : List V} : H a = some (.lst ws) → w a = o → FzL K H w e ws → Ow1L o ds vs → Ow1L o (.lst e :: ds) (.ref a :: vs)
/-- a value owned by o, k levels deep -/
inductive Ow (o : Own) : Nat → D → V → Prop
  | fz {d : D} {v : V} : Fz K H w d v → Ow o 0 d v
  | lst {a : Addr} {vs : List V} {ds : List D} : H a = some (.lst vs) → w a = o → FzL K H w ds vs → Ow o 1 (.lst ds) (.ref a)
  | dct {a : Addr} {kvs : List (Key × V)} {ks : List Key} {ds : List D} : H a = some (.dK kvs) → w a = o → kvs.map (·.1) = ks → FzL K H w ds (kvs.map (·.2)) → Ow o 1 (.dct ks ds) (.ref a)
  | lst2 {a : Addr} {vs : List V} {ds : List D} : H a = some (.lst vs) → w a = o → Ow1L K H w o ds vs → (V.ref a :: vs).Nodup → Ow o 2 (.lst ds) (.ref a)
end

section
variable {K : PySem.W.Frag} {H H' : Hp} {w w' : OM} {o o' : Own} {a : Addr} {vs : List V} {d : D} {v : V} {ds : List D} {k : Nat}
theorem TupAt.sq (h : TupAt K H w a vs) : SqT K H a vs := by
  rcases h with ⟨⟨o, h, _⟩, _⟩ | ⟨o, its, n, h1, h2, _, h3⟩
  · exact .inl (.inr ⟨o, h⟩)
  · exact .inr ⟨o, its, n, h1, h2, h3⟩
theorem TupAt.rc (h : TupAt K H w a vs) : TupRc K H a := by
  rcases h with ⟨⟨o, h, hd⟩, _⟩ | ⟨o, its, n, h1, h2, h3, _⟩
  · exact .inl ⟨o, vs, h, hd⟩
  · exact .inr ⟨o, h1, h2, h3⟩
theorem LstAt.sq (h : LstAt K H w a vs) : SqL K H a vs := by
  rcases h with ⟨h, _⟩ | h
  · exact .inl h
  · exact .inr h
theorem FzL.length : ∀ {ds : List D} {vs : List V}, FzL K H w ds vs → ds.length = vs.length
  | _, _, .nil => rfl
  | _, _, .cons _ t => by rw [List.length_cons, List.length_cons, FzL.length t]
theorem FzL.get : ∀ {ds : List D} {vs : List V} {i : Nat} {d : D}, FzL K H w ds vs → ds[i]? = some d → ∃ v, vs[i]? = some v ∧ Fz K H w d v
  | _, _, _, _, .nil, e => by simp at e
  | _, _, 0, _, .cons r _, e => by simp at e; subst e; exact ⟨_, rfl, r⟩
  | _, _, i + 1, _, .cons _ t, e => by simpa using FzL.get t (i := i) (by simpa using e)
theorem FzL.getV : ∀ {ds : List D} {vs : List V} {i : Nat} {v : V}, FzL K H w ds vs → vs[i]? = some v → ∃ d, ds[i]? = some d ∧ Fz K H w d v
  | _, _, _, _, .nil, e => by simp at e
  | _, _, 0, _, .cons r _, e => by simp at e; subst e; exact ⟨_, rfl, r⟩
  | _, _, i + 1, _, .cons _ t, e => by simpa using FzL.getV t (i := i) (by simpa using e)
theorem FzL.append : ∀ {ds es : List D} {vs us : List V}, FzL K H w ds vs → FzL K H w es us → FzL K H w (ds ++ es) (vs ++ us)
  | _, _, _, _, .nil, s => s
  | _, _, _, _, .cons r t, s => .cons r (FzL.append t s)
theorem FzL.take : ∀ {ds : List D} {vs : List V} (n : Nat), FzL K H w ds vs → FzL K H w (ds.take n) (vs.take n)
  | _, _, 0, _ => .nil
  | _, _, _ + 1, .nil => .nil
  | _, _, n + 1, .cons r t => .cons r (FzL.take n t)
theorem FzL.drop : ∀ {ds : List D} {vs : List V} (n : Nat), FzL K H w ds vs → FzL K H w (ds.drop n) (vs.drop n)
  | _, _, 0, r => r
  | _, _, _ + 1, .nil => .nil
  | _, _, n + 1, .cons _ t => FzL.drop n t
theorem FzL.set (r : Fz K H w d v) : ∀ {ds : List D} {vs : List V} (i : Nat), FzL K H w ds vs → FzL K H w (ds.set i d) (vs.set i v)
  | _, _, _, .nil => .nil
  | _, _, 0, .cons _ t => .cons r t
  | _, _, i + 1, .cons q t => .cons q (FzL.set r i t)
theorem FzL.eraseIdx : ∀ {ds : List D} {vs : List V} (i : Nat), FzL K H w ds vs → FzL K H w (ds.eraseIdx i) (vs.eraseIdx i)
  | _, _, _, .nil => .nil
  | _, _, 0, .cons _ t => t
  | _, _, i + 1, .cons q t => .cons q (FzL.eraseIdx i t)
theorem FzL.reverse {ds : List D} {vs : List V} (h : FzL K H w ds vs) : FzL K H w ds.reverse vs.reverse := by
  induction h using FzL.rec (motive_1 := fun _ _ _ => True) with
  | nil => exact .nil
  | cons r t _ ih => rw [List.reverse_cons, List.reverse_cons]; exact ih.append (.cons r .nil)
  | _ => trivial
theorem FzL.dropLast {ds : List D} {vs : List V} (h : FzL K H w ds vs) : FzL K H w ds.dropLast vs.dropLast := by
  rw [List.dropLast_eq_take, List.dropLast_eq_take, h.length]
  exact h.take _
theorem FzL.rep {ds : List D} {vs : List V} (h : FzL K H w ds vs) : ∀ k : Nat, FzL K H w (List.replicate k ds).flatten (List.replicate k vs).flatten
  | 0 => .nil
  | k + 1 => by
    rw [List.replicate_succ, List.replicate_succ, List.flatten_cons, List.flatten_cons]
    exact h.append (FzL.rep h k)
theorem FzL.ints : ∀ {ns : List Int} {vs : List V}, FzL K H w (ns.map D.int) vs → vs = ns.map V.int
  | [], _, .nil => rfl
  | n :: ns, _, .cons (.int _) t => by rw [FzL.ints t]; rfl
theorem FzL.of_ints : ∀ (ns : List Int), FzL K H w (ns.map D.int) (ns.map V.int)
  | [] => .nil
  | n :: ns => .cons (.int n) (FzL.of_ints ns)
theorem FzL.bls : ∀ {ns : List Bool} {vs : List V}, FzL K H w (ns.map D.bl) vs → vs = ns.map V.bl
  | [], _, .nil => rfl
  | n :: ns, _, .cons (.bl _) t => by rw [FzL.bls t]; rfl
theorem FzL.of_bls : ∀ (ns : List Bool), FzL K H w (ns.map D.bl) (ns.map V.bl)
  | [] => .nil
  | n :: ns => .cons (.bl n) (FzL.of_bls ns)
theorem FzL.strs : ∀ {ns : List Str} {vs : List V}, FzL K H w (ns.map D.str) vs → vs = ns.map V.str
  | [], _, .nil => rfl
  | n :: ns, _, .cons (.str _) t => by rw [FzL.strs t]; rfl
theorem FzL.of_strs : ∀ (ns : List Str), FzL K H w (ns.map D.str) (ns.map V.str)
  | [] => .nil
  | n :: ns => .cons (.str n) (FzL.of_strs ns)

/-! ### what steps keep -/
/-- what is frozen at (H, w) is so at (H', w') -/
def Kp (o : Own) (H : Hp) (w : OM) (H' : Hp) (w' : OM) : Prop := ∀ a x, H a = some x → (w a = .no ∨ w a = o) → H' a = some x ∧ w' a = w a
theorem Kp.rd {u : HO} (k : Kp o H w H' w') (h : Rd H a u) (n : w a = .no) : Rd H' a u ∧ w' a = .no := by
  rcases h with h | ⟨q, h⟩
  · obtain ⟨h1, h2⟩ := k a _ h (.inl n)
    exact ⟨.inl h1, h2.trans n⟩
  · obtain ⟨h1, h2⟩ := k a _ h (.inl n)
    exact ⟨.inr ⟨q, h1⟩, h2.trans n⟩
theorem TupAt.step (k : Kp o H w H' w') (h : TupAt K H w a vs) : TupAt K H' w' a vs := by
  rcases h with ⟨⟨q, h, hd⟩, n⟩ | h
  · exact .inl ⟨⟨q, (k a _ h (.inl n)).1, hd⟩, (k a _ h (.inl n)).2.trans n⟩
  · exact .inr h
theorem LstAt.step (k : Kp o H w H' w') (h : LstAt K H w a vs) : LstAt K H' w' a vs := by
  rcases h with ⟨h, n⟩ | h
  · exact .inl (k.rd h n)
  · exact .inr h
mutual
theorem Fz.step (k : Kp o H w H' w') : ∀ {d : D} {v : V}, Fz K H w d v → Fz K H' w' d v
  | _, _, .non => .non
  | _, _, .bl b => .bl b
  | _, _, .int i => .int i
  | _, _, .str x => .str x
  | _, _, .tup h t => .tup (h.step k) (FzL.step k t)
  | _, _, .lst h n t => .lst (k _ _ h (.inl n)).1 ((k _ _ h (.inl n)).2.trans n) (FzL.step k t)
  | _, _, .scr h t => .scr (h.step k) (FzL.step k t)
  | _, _, .dct h n e t => .dct (k.rd h n).1 (k.rd h n).2 e (FzL.step k t)
theorem FzL.step (k : Kp o H w H' w') : ∀ {ds : List D} {vs : List V}, FzL K H w ds vs → FzL K H' w' ds vs
  | _, _, .nil => .nil
  | _, _, .cons h t => .cons (Fz.step k h) (FzL.step k t)
end
theorem Ow1L.step (k : Kp o H w H' w') : ∀ {ds : List D} {vs : List V}, Ow1L K H w o ds vs → Ow1L K H' w' o ds vs
  | _, _, .nil => .nil
  | _, _, .cons h n t r => .cons (k _ _ h (.inr n)).1 ((k _ _ h (.inr n)).2.trans n) (t.step k) (Ow1L.step k r)
theorem Ow.step (k' : Kp o H w H' w') (h : Ow K H w o k d v) : Ow K H' w' o k d v := by
  cases h with
  | fz h => exact .fz (h.step k')
  | lst h n t => exact .lst (k' _ _ h (.inr n)).1 ((k' _ _ h (.inr n)).2.trans n) (t.step k')
  | dct h n e t => exact .dct (k' _ _ h (.inr n)).1 ((k' _ _ h (.inr n)).2.trans n) e (t.step k')
  | lst2 h n t nd => exact .lst2 (k' _ _ h (.inr n)).1 ((k' _ _ h (.inr n)).2.trans n) (t.step k') nd

/-! ### relabelling -/
theorem Kp.re (ho : o ≠ .no) (o1 : Own) (h1 : o1 ≠ o) : Kp o1 H w H (w.re o o') := fun a x e h => by
  refine ⟨e, OM.re_ne ?_⟩
  rcases h with h | h
  · rw [h]; exact ho.symm
  · rw [h]; exact h1
theorem Fz.re (ho : o ≠ .no) (h : Fz K H w d v) : Fz K H (w.re o o') d v := h.step (Kp.re ho .no ho.symm)
theorem FzL.re (ho : o ≠ .no) (h : FzL K H w ds vs) : FzL K H (w.re o o') ds vs := h.step (Kp.re ho .no ho.symm)
theorem Ow.other {o1 : Own} (ho : o ≠ .no) (h1 : o1 ≠ o) (h : Ow K H w o1 k d v) : Ow K H (w.re o o') o1 k d v := h.step (Kp.re ho o1 h1)
theorem Ow1L.re (ho : o ≠ .no) : ∀ {ds : List D} {vs : List V}, Ow1L K H w o ds vs → Ow1L K H (w.re o o') o' ds vs
  | _, _, .nil => .nil
  | _, _, .cons h n t r => .cons h (OM.re_eq n) (t.re ho) (Ow1L.re ho r)
theorem Ow.re (ho : o ≠ .no) (h : Ow K H w o k d v) : Ow K H (w.re o o') o' k d v := by
  cases h with
  | fz h => exact .fz (h.re ho)
  | lst h n t => exact .lst h (OM.re_eq n) (t.re ho)
  | dct h n e t => exact .dct h (OM.re_eq n) e (t.re ho)
  | lst2 h n t nd => exact .lst2 h (OM.re_eq n) (t.re ho) nd
theorem Ow1L.freeze (ho : o ≠ .no) : ∀ {ds : List D} {vs : List V}, Ow1L K H w o ds vs → FzL K H (w.re o .no) ds vs
  | _, _, .nil => .nil
  | _, _, .cons h n t r => .cons (.lst h (OM.re_eq n) (t.re ho)) (Ow1L.freeze ho r)
theorem Ow.freeze (ho : o ≠ .no) (h : Ow K H w o k d v) : Fz K H (w.re o .no) d v := by
  cases h with
  | fz h => exact h.re ho
  | lst h n t => exact .lst h (OM.re_eq n) (t.re ho)
  | dct h n e t => exact .dct (.inl h) (OM.re_eq n) e (t.re ho)
  | lst2 h n t nd => exact .lst h (OM.re_eq n) (t.freeze ho)
end

/-! ### environments -/
/-- a slot: its value, how deep it may be written -/
structure Cell where
  d : D
  k : Nat := 0
  deriving DecidableEq, Inhabited
abbrev Env := List (Option Cell)
def Env.get : Env → Nat → Option Cell
  | [], _ => none
  | c :: _, 0 => c
  | _ :: r, n + 1 => Env.get r n
def Env.set : Env → Nat → Option Cell → Env
  | [], _, _ => []
  | _ :: r, 0, c => c :: r
  | x :: r, n + 1, c => x :: Env.set r n c
theorem Env.get_set_same : ∀ {ρ : Env} {i : Nat} {c x : Option Cell}, i < ρ.length → (Env.set ρ i c).get i = c
  | [], _, _, _, h => by simp at h
  | _ :: _, 0, _, _, _ => rfl
  | _ :: r, i + 1, c, x, h => Env.get_set_same (ρ := r) (x := x) (by simpa using h)
theorem Env.get_set_ne : ∀ {ρ : Env} {i j : Nat} {c : Option Cell}, j ≠ i → (Env.set ρ i c).get j = ρ.get j
  | [], _, _, _, _ => rfl
  | _ :: _, 0, 0, _, h => absurd rfl h
  | _ :: _, 0, _ + 1, _, _ => rfl
  | _ :: _, _ + 1, 0, _, _ => rfl
  | _ :: r, i + 1, j + 1, _, h => Env.get_set_ne (ρ := r) (fun e => h (by rw [e]))
theorem Env.length_set : ∀ {ρ : Env} {i : Nat} {c : Option Cell}, (Env.set ρ i c).length = ρ.length
  | [], _, _ => rfl
  | _ :: _, 0, _ => rfl
  | _ :: r, i + 1, c => by show (Env.set r i c).length + 1 = _; rw [Env.length_set]; rfl
theorem Env.get_lt : ∀ {ρ : Env} {i : Nat} {c : Cell}, ρ.get i = some c → i < ρ.length
  | [], _, _, h => by cases h
  | _ :: _, 0, _, _ => by simp
  | _ :: r, i + 1, _, h => by have := Env.get_lt (ρ := r) h; simp; omega
theorem Env.get_set {ρ : Env} {i j : Nat} {c : Option Cell} {x : Cell} (h : (Env.set ρ i c).get j = some x) : (j = i ∧ c = some x) ∨ (j ≠ i ∧ ρ.get j = some x) := by
  by_cases e : j = i
  · subst e
    have hl : j < ρ.length := by have := Env.get_lt h; rwa [Env.length_set] at this
    rw [Env.get_set_same (x := none) hl] at h
    exact .inl ⟨rfl, h⟩
  · rw [Env.get_set_ne e] at h
    exact .inr ⟨e, h⟩

/-! ### results -/
inductive R (α : Type) where
  | ok (a : α) | exc (c : Str) (ds : List D) | bad
def R.bind {α β : Type} : R α → (α → R β) → R β
  | .ok a, f => f a
  | .exc c ds, _ => .exc c ds
  | .bad, _ => .bad
instance : Monad R where
  pure := R.ok
  bind := R.bind
@[simp] theorem R.ok_bind {α β : Type} (a : α) (f : α → R β) : (R.ok a >>= f) = f a := rfl
@[simp] theorem R.bad_bind {α β : Type} (f : α → R β) : ((R.bad : R α) >>= f) = R.bad := rfl
@[simp] theorem R.exc_bind {α β : Type} (c : Str) (ds : List D) (f : α → R β) : ((R.exc c ds : R α) >>= f) = R.exc c ds := rfl
@[simp] theorem R.pure_eq {α : Type} (a : α) : (pure a : R α) = .ok a := rfl
theorem R.of_bind {α β : Type} {r : R α} {f : α → R β} {b : β} (h : (r >>= f) = .ok b) : ∃ a, r = .ok a ∧ f a = .ok b := by
  cases r with
  | ok a => exact ⟨a, rfl, h⟩
  | exc c ds => cases h
  | bad => cases h

/-! ### states -/
section
variable (K : PySem.W.Frag) (H : Hp) (w : OM)
structure Ok (σ : L2.St) (ρ : Env) : Prop where
  len : σ.length = ρ.length
  slot : ∀ i c, ρ.get i = some c → ∃ v, σ[i]? = some (some v) ∧ Ow K H w (.sl i) c.k c.d v
  live : ∀ a, w a ≠ .no → H a ≠ none
end
def Fixed (n : Nat) (o : Own) : Prop := o = .no ∨ o = .out ∨ ∃ j, j < n ∧ o = .tm j
theorem Fixed.mono {n m : Nat} {o : Own} (h : n ≤ m) (f : Fixed n o) : Fixed m o := by
  rcases f with f | f | ⟨j, hj, f⟩
  · exact .inl f
  · exact .inr (.inl f)
  · exact .inr (.inr ⟨j, by omega, f⟩)
theorem not_fixed_sl {n i : Nat} : ¬ Fixed n (.sl i) := by
  rintro (f | f | ⟨j, _, f⟩) <;> cases f
theorem not_fixed_tm {n : Nat} : ¬ Fixed n (.tm n) := by
  rintro (f | f | ⟨j, h, f⟩)
  · cases f
  · cases f
  · cases f; omega
/-- a step that may write the slots, not what is pending below n -/
def Step (n : Nat) (H : Hp) (w : OM) (H' : Hp) (w' : OM) : Prop := ∀ a x, H a = some x → Fixed n (w a) → H' a = some x ∧ w' a = w a
section
variable {K : PySem.W.Frag} {H H' H1 H2 : Hp} {w w' w1 w2 : OM} {n m : Nat} {σ : L2.St} {ρ : Env} {o o' : Own} {a : Addr} {k : Nat} {d : D} {v : V}
theorem Step.refl : Step n H w H w := fun _ _ h _ => ⟨h, rfl⟩
theorem Step.trans (a : Step n H w H1 w1) (b : Step n H1 w1 H2 w2) : Step n H w H2 w2 := fun p x h f => by
  obtain ⟨h1, e1⟩ := a p x h f
  obtain ⟨h2, e2⟩ := b p x h1 (by rw [e1]; exact f)
  exact ⟨h2, e2.trans e1⟩
theorem Step.mono (h : n ≤ m) (a : Step m H w H' w') : Step n H w H' w' := fun p x e f => a p x e (f.mono h)
theorem Step.kp (a : Step n H w H' w') (f : Fixed n o) : Kp o H w H' w' := fun p x e h => a p x e (by
  rcases h with h | h
  · rw [h]; exact .inl rfl
  · rw [h]; exact f)
theorem Step.fz (a : Step n H w H' w') (h : Fz K H w d v) : Fz K H' w' d v := h.step (a.kp (o := .no) (.inl rfl))
theorem Step.tm (a : Step n H w H' w') (j : Nat) (hj : j < n) (h : Ow K H w (.tm j) k d v) : Ow K H' w' (.tm j) k d v := h.step (a.kp (.inr (.inr ⟨j, hj, rfl⟩)))
/-- a label is changed that n does not fix -/
theorem Step.re (ho : ¬ Fixed n o) : Step n H w H (w.re o o') := fun a x e f => ⟨e, OM.re_ne fun z => ho (by rw [← z]; exact f)⟩
/-- a fresh object -/
theorem Step.new {p : Addr} {u : HO} (hp : H p = none) : Step n H w (upd H p u) (w.put p o) := fun a x e f => by
  have h : a ≠ p := ne_of_none e hp
  exact ⟨by rw [upd_ne h]; exact e, OM.put_ne h⟩
/-- an object written whose owner n does not fix -/
theorem Step.write {p : Addr} {u : HO} (ho : ¬ Fixed n (w p)) : Step n H w (upd H p u) w := fun a x e f => by
  have h : a ≠ p := fun z => ho (by rw [← z]; exact f)
  exact ⟨by rw [upd_ne h]; exact e, rfl⟩
theorem Kp.new {p : Addr} {u : HO} (hp : H p = none) (o1 : Own) : Kp o1 H w (upd H p u) (w.put p o) := fun a x e f => by
  have h : a ≠ p := ne_of_none e hp
  exact ⟨by rw [upd_ne h]; exact e, OM.put_ne h⟩
theorem Kp.write {p : Addr} {u : HO} {o1 : Own} (h0 : w p ≠ .no) (h1 : w p ≠ o1) : Kp o1 H w (upd H p u) w := fun a x e f => by
  have h : a ≠ p := fun z => by
    subst z
    rcases f with f | f
    · exact h0 f
    · exact h1 f
  exact ⟨by rw [upd_ne h]; exact e, rfl⟩
theorem Ok.new {p : Addr} {u : HO} (ok : Ok K H w σ ρ) (hp : H p = none) (o : Own) : Ok K (upd H p u) (w.put p o) σ ρ := by
  refine ⟨ok.len, fun i c e => ?_, fun a h => ?_⟩
  · obtain ⟨v, e1, h⟩ := ok.slot i c e
    exact ⟨v, e1, h.step (Kp.new hp _)⟩
  · by_cases z : a = p
    · subst z; rw [upd_same]; exact fun q => nomatch q
    · rw [upd_ne z]; rw [OM.put_ne z] at h; exact ok.live a h
/-- what is of a temp becomes frozen, or another temp's, the slots stay -/
theorem Ok.re (ok : Ok K H w σ ρ) (ho : o ≠ .no) (hs : ∀ i, o ≠ .sl i) : Ok K H (w.re o o') σ ρ := by
  refine ⟨ok.len, fun i c e => ?_, fun a h => ?_⟩
  · obtain ⟨v, e1, h⟩ := ok.slot i c e
    exact ⟨v, e1, h.other ho (hs i).symm⟩
  · by_cases z : w a = o
    · exact ok.live a (by rw [z]; exact ho)
    · rw [OM.re_ne z] at h; exact ok.live a h
/-- a slot is frozen -/
theorem Ok.freeze {i : Nat} {c : Cell} (ok : Ok K H w σ ρ) (e : ρ.get i = some c) : Ok K H (w.re (.sl i) .no) σ (ρ.set i (some ⟨c.d, 0⟩)) := by
  refine ⟨by rw [Env.length_set]; exact ok.len, fun j x q => ?_, fun a h => ?_⟩
  · rcases Env.get_set q with ⟨ej, qx⟩ | ⟨hj, q⟩
    · subst ej
      cases qx
      obtain ⟨v, e1, h⟩ := ok.slot j c e
      exact ⟨v, e1, .fz (h.freeze (by intro z; cases z))⟩
    · obtain ⟨v, e1, h⟩ := ok.slot j x q
      exact ⟨v, e1, h.other (by intro z; cases z) (by intro z; cases z; exact hj rfl)⟩
  · by_cases z : w a = .sl i
    · exact ok.live a (by rw [z]; intro q; cases q)
    · rw [OM.re_ne z] at h; exact ok.live a h
end
end Z

/-! Z: expressions. -/
namespace Z
open PySem PySem.Spec PyProof.Rows L2

inductive Src where
  | v (c : Cell) | s (i : Nat)
def Src.cell (ρ : Env) : Src → Option Cell
  | .v c => some c
  | .s i => ρ.get i
abbrev AE := Env → R (Src × Env)
def cells (ρ : Env) : List Src → Option (List Cell)
  | [] => some []
  | s :: ss => match s.cell ρ, cells ρ ss with
    | some c, some cs => some (c :: cs)
    | _, _ => none
def evs : List AE → Env → R (List Src × Env)
  | [], ρ => .ok ([], ρ)
  | m :: ms, ρ => do
    let (s, ρ1) ← m ρ
    let (ss, ρ2) ← evs ms ρ1
    R.ok (s :: ss, ρ2)
def SrcAt (K : PySem.W.Frag) (H : Hp) (w : OM) (σ : L2.St) (n : Nat) : Src → V → Prop
  | .v c, v => Ow K H w (.tm n) c.k c.d v
  | .s i, v => σ[i]? = some (some v)
def SrcsAt (K : PySem.W.Frag) (H : Hp) (w : OM) (σ : L2.St) : Nat → List Src → List V → Prop
  | _, [], [] => True
  | n, s :: ss, v :: vs => SrcAt K H w σ n s v ∧ SrcsAt K H w σ (n + 1) ss vs
  | _, _, _ => False
/-- values by cells, whoever owns them -/
inductive OwA (K : PySem.W.Frag) (H : Hp) (w : OM) : List Cell → List V → Prop
  | nil : OwA K H w [] []
  | cons {c : Cell} {v : V} {cs : List Cell} {vs : List V} {o : Own} : o ≠ .no → Ow K H w o c.k c.d v → OwA K H w cs vs → OwA K H w (c :: cs) (v :: vs)
section
variable {K : PySem.W.Frag} {H H' : Hp} {w w' : OM} {σ : L2.St} {ρ : Env} {n m : Nat}
theorem SrcAt.step {s : Src} {v : V} (h : SrcAt K H w σ n s v) (st : Step m H w H' w') (hm : n < m) : SrcAt K H' w' σ n s v := by
  cases s with
  | v c => exact st.tm n hm h
  | s i => exact h
theorem SrcAt.cell {s : Src} {v : V} {c : Cell} (ok : Ok K H w σ ρ) (h : SrcAt K H w σ n s v) (e : s.cell ρ = some c) : ∃ o, o ≠ .no ∧ Ow K H w o c.k c.d v := by
  cases s with
  | v c' =>
    cases (show some c' = some c from e)
    exact ⟨.tm n, (by intro z; cases z), h⟩
  | s i =>
    obtain ⟨u, e1, q⟩ := ok.slot i c e
    have h : σ[i]? = some (some v) := h
    rw [h] at e1
    cases e1
    exact ⟨.sl i, (by intro z; cases z), q⟩
theorem SrcsAt.cells : ∀ {ss : List Src} {vs : List V} {cs : List Cell} {n : Nat}, Ok K H w σ ρ → SrcsAt K H w σ n ss vs → Z.cells ρ ss = some cs → OwA K H w cs vs
  | [], [], cs, n, ok, h, e => by cases e; exact .nil
  | [], _ :: _, _, _, _, h, _ => h.elim
  | _ :: _, [], _, _, _, h, _ => h.elim
  | s :: ss, v :: vs, cs, n, ok, ⟨h, t⟩, e => by
    unfold Z.cells at e
    cases e1 : s.cell ρ with
    | none => rw [e1] at e; cases e
    | some c =>
      cases e2 : Z.cells ρ ss with
      | none => rw [e1, e2] at e; cases e
      | some cs' =>
        rw [e1, e2] at e
        cases e
        obtain ⟨o, ho, q⟩ := h.cell ok e1
        exact .cons ho q (SrcsAt.cells ok t e2)
end

/-! ### what holds of an expression -/
structure SA (X : Cx) (e : Expr) (m : AE) : Prop where
  ex : ∃ t, PE X e t ∧ ∀ (n : Nat) (σ : L2.St) (H : Hp) (w : OM) (ρ : Env) (s : Src) (ρ' : Env) (Q : VK), Ok X.K H w σ ρ → m ρ = .ok (s, ρ') →
    (∀ v H' w', Ok X.K H' w' σ ρ' → Step n H w H' w' → SrcAt X.K H' w' σ n s v → Q v H') → t σ H Q
structure SAs (X : Cx) (es : List Expr) (ms : List AE) : Prop where
  ex : ∃ t, PA X es t ∧ ∀ (n : Nat) (σ : L2.St) (H : Hp) (w : OM) (ρ : Env) (ss : List Src) (ρ' : Env) (Q : List V → Hp → Prop), Ok X.K H w σ ρ → evs ms ρ = .ok (ss, ρ') →
    (∀ vs H' w', Ok X.K H' w' σ ρ' → Step n H w H' w' → SrcsAt X.K H' w' σ n ss vs → Q vs H') → t σ H Q
theorem PE.or {X : Cx} {e : Expr} {t u : TE} (h : PE X e t) (h' : PE X e u) : PE X e (fun σ H Q => t σ H Q ∨ u σ H Q) := ⟨fun pins s σ H Q I q => by
  rcases q with q | q
  · exact h.run pins s σ H Q I q
  · exact h'.run pins s σ H Q I q⟩
section
variable {X : Cx} {e a b : Expr} {es : List Expr} {m ma mb : AE} {ms : List AE} {pos : Pos}
theorem sas_nil : SAs X [] [] := ⟨_, pa_nil, fun n σ H w ρ ss ρ' Q ok h k => by
  cases h
  exact k [] H w ok Step.refl trivial⟩
theorem sas_cons (ha : SA X e m) (hr : SAs X es ms) (hs : starEach (e :: es) X.env = (false, eval e X.env) :: starEach es X.env := by rfl) : SAs X (e :: es) (m :: ms) := by
  obtain ⟨t, p, h⟩ := ha.ex
  obtain ⟨u, q, g⟩ := hr.ex
  refine ⟨_, pa_cons p q hs, fun n σ H w ρ ss ρ' Q ok hm k => ?_⟩
  obtain ⟨⟨s, ρ1⟩, e1, hm⟩ := R.of_bind hm
  obtain ⟨⟨ss2, ρ2⟩, e2, hm⟩ := R.of_bind hm
  cases hm
  refine h n σ H w ρ s ρ1 _ ok e1 fun v H1 w1 ok1 st1 s1 => ?_
  refine g (n + 1) σ H1 w1 ρ1 ss2 _ _ ok1 e2 fun vs H2 w2 ok2 st2 s2 => ?_
  exact k _ H2 w2 ok2 (st1.trans (st2.mono (Nat.le_succ n))) ⟨s1.step st2 (Nat.lt_succ_self n), s2⟩

/-! ### names, constants -/
def aVar (i : Nat) : AE := fun ρ => match ρ.get i with
  | some _ => .ok (.s i, ρ)
  | none => .bad
theorem sa_var {i : Nat} {x : Str} {pos : Pos} (hN : X.N[i]? = some x := by rfl) (hv : Vis X.env.scope x := by first | exact Or.inl rfl | exact Or.inr (Or.inl rfl) | exact Or.inr (Or.inr rfl))
    (hd : (x == ("__debug__" : Str)) = false := by decide) (hcd : (x == ("__classdict__" : Str)) = false := by decide) : SA X (.Name x pos) (aVar i) := by
  refine ⟨_, pe_var hN hv hd hcd, fun n σ H w ρ s ρ' Q ok hm k => ?_⟩
  unfold aVar at hm
  cases e : ρ.get i with
  | none => rw [e] at hm; cases hm
  | some c =>
    rw [e] at hm
    cases hm
    obtain ⟨v, h1, _⟩ := ok.slot i c e
    exact ⟨v, h1, k v H w ok Step.refl h1⟩
def Cell.fz (d : D) : Cell := ⟨d, 0⟩
def aC (d : D) : AE := fun ρ => .ok (.v (Cell.fz d), ρ)
theorem sa_const {v : V} {d : D} (p : PE X e (tC v)) (h : ∀ H w, Fz X.K H w d v) : SA X e (aC d) := ⟨_, p, fun n σ H w ρ s ρ' Q ok hm k => by
  cases hm
  exact k v H w ok Step.refl (.fz (h H w))⟩
theorem sa_int {i : Int} {j : Nat} {pos : Pos} : SA X (.Constant (.int i) j pos) (aC (.int i)) := sa_const pe_int fun _ _ => .int i
theorem sa_bl {i : Bool} {j : Nat} {pos : Pos} : SA X (.Constant (.bool i) j pos) (aC (.bl i)) := sa_const pe_bl fun _ _ => .bl i
theorem sa_non {j : Nat} {pos : Pos} : SA X (.Constant .none j pos) (aC .non) := sa_const pe_non fun _ _ => .non
theorem sa_str {i : Str} {j : Nat} {pos : Pos} : SA X (.Constant (.str i) j pos) (aC (.str i)) := sa_const pe_str fun _ _ => .str i
theorem sa_gint {x : Str} {i : Int} {pos : Pos} (hm : ∃ t, X.mg x = some (.int i t)) (hg : Gl X x := by rfl) (hd : (x == ("__debug__" : Str)) = false := by decide) : SA X (.Name x pos) (aC (.int i)) := by
  obtain ⟨t, hm⟩ := hm
  exact sa_const (v := .int i) (pe_glob hg hm ⟨t, rfl⟩ hd) fun _ _ => .int i
theorem sa_gstr {x z : Str} {pos : Pos} (hm : ∃ t, X.mg x = some (.str z t)) (hg : Gl X x := by rfl) (hd : (x == ("__debug__" : Str)) = false := by decide) : SA X (.Name x pos) (aC (.str z)) := by
  obtain ⟨t, hm⟩ := hm
  exact sa_const (v := .str z) (pe_glob hg hm ⟨t, rfl⟩ hd) fun _ _ => .str z

/-! ### operations on values -/
/-- f tells what the operation by values r makes -/
def CallS (X : Cx) (r : List V → Hp → VK → Prop) (f : List Cell → R Cell) : Prop :=
  ∀ (n : Nat) (H : Hp) (w : OM) (σ : L2.St) (ρ : Env) (cs : List Cell) (vs : List V) (c : Cell) (Q : VK), Ok X.K H w σ ρ → OwA X.K H w cs vs → f cs = .ok c →
    (∀ v H' w', Ok X.K H' w' σ ρ → Step n H w H' w' → Ow X.K H' w' (.tm n) c.k c.d v → Q v H') → r vs H Q
def r2L (r : R2) : List V → Hp → VK → Prop := fun vs H Q => match vs with
  | [x, y] => r x y H Q
  | _ => False
def r1L (r : V → Hp → VK → Prop) : List V → Hp → VK → Prop := fun vs H Q => match vs with
  | [x] => r x H Q
  | _ => False
def mPrim (f : List Cell → R Cell) (ms : List AE) : AE := fun ρ => do
  let (ss, ρ1) ← evs ms ρ
  match cells ρ1 ss with
  | some cs => do
    let c ← f cs
    R.ok (.v c, ρ1)
  | none => R.bad
theorem mPrim_ok {f : List Cell → R Cell} {ρ ρ' : Env} {s : Src} (h : mPrim f ms ρ = .ok (s, ρ')) : ∃ ss cs c, evs ms ρ = .ok (ss, ρ') ∧ cells ρ' ss = some cs ∧ f cs = .ok c ∧ s = .v c := by
  obtain ⟨⟨ss, ρ1⟩, e1, h⟩ := R.of_bind h
  dsimp only at h
  cases e2 : cells ρ1 ss with
  | none => rw [e2] at h; cases h
  | some cs =>
    rw [e2] at h
    obtain ⟨c, e3, h⟩ := R.of_bind h
    cases h
    exact ⟨ss, cs, c, e1, e2, e3, rfl⟩
/-- by an argument list -/
theorem sa_prim {f : List Cell → R Cell} {r : List V → Hp → VK → Prop} (hs : CallS X r f) (ha : SAs X es ms) (hp : ∀ t, PA X es t → PE X e (fun σ H Q => t σ H fun vs H1 => r vs H1 Q)) : SA X e (mPrim f ms) := by
  obtain ⟨t, p, h⟩ := ha.ex
  refine ⟨_, hp t p, fun n σ H w ρ s ρ' Q ok hm k => ?_⟩
  obtain ⟨ss, cs, c, e1, e2, e3, rfl⟩ := mPrim_ok hm
  refine h n σ H w ρ ss ρ' _ ok e1 fun vs H1 w1 ok1 st1 s1 => ?_
  exact hs n H1 w1 σ ρ' cs vs c Q ok1 (s1.cells ok1 e2) e3 fun v H2 w2 ok2 st2 q => k v H2 w2 ok2 (st1.trans st2) q
/-- by two expressions in a row -/
theorem sa_prim2 {f : List Cell → R Cell} {r : R2} (hs : CallS X (r2L r) f) (ha : SA X a ma) (hb : SA X b mb) (hp : ∀ t u, PE X a t → PE X b u → PE X e (tOp r t u)) : SA X e (mPrim f [ma, mb]) := by
  obtain ⟨t, p, h⟩ := ha.ex
  obtain ⟨u, q, g⟩ := hb.ex
  refine ⟨_, hp t u p q, fun n σ H w ρ s ρ' Q ok hm k => ?_⟩
  obtain ⟨ss, cs, c, e1, e2, e3, rfl⟩ := mPrim_ok hm
  obtain ⟨⟨s1, ρ1⟩, f1, e1⟩ := R.of_bind e1
  obtain ⟨⟨ss2, ρ2⟩, f2, e1⟩ := R.of_bind e1
  cases e1
  obtain ⟨⟨s2, ρ3⟩, f3, f2⟩ := R.of_bind f2
  cases f2
  refine h n σ H w ρ s1 ρ1 _ ok f1 fun v H1 w1 ok1 st1 q1 => ?_
  refine g (n + 1) σ H1 w1 ρ1 s2 ρ' _ ok1 f3 fun v2 H2 w2 ok2 st2 q2 => ?_
  refine hs n H2 w2 σ ρ' cs [v, v2] c Q ok2 (SrcsAt.cells (n := n) (ss := [s1, s2]) (vs := [v, v2]) ok2 ⟨q1.step st2 (Nat.lt_succ_self n), q2, trivial⟩ e2) e3 fun v3 H3 w3 ok3 st3 q3 => ?_
  exact k v3 H3 w3 ok3 ((st1.trans (st2.mono (Nat.le_succ n))).trans st3) q3
theorem sa_prim1 {f : List Cell → R Cell} {r : V → Hp → VK → Prop} (hs : CallS X (r1L r) f) (ha : SA X a ma) (hp : ∀ t, PE X a t → PE X e (fun σ H Q => t σ H fun x H1 => r x H1 Q)) : SA X e (mPrim f [ma]) := by
  obtain ⟨t, p, h⟩ := ha.ex
  refine ⟨_, hp t p, fun n σ H w ρ s ρ' Q ok hm k => ?_⟩
  obtain ⟨ss, cs, c, e1, e2, e3, rfl⟩ := mPrim_ok hm
  obtain ⟨⟨s1, ρ1⟩, f1, e1⟩ := R.of_bind e1
  cases e1
  refine h n σ H w ρ s1 ρ' _ ok f1 fun v H1 w1 ok1 st1 q1 => ?_
  refine hs n H1 w1 σ ρ' cs [v] c Q ok1 (SrcsAt.cells (n := n) (ss := [s1]) (vs := [v]) ok1 ⟨q1, trivial⟩ e2) e3 fun v3 H3 w3 ok3 st3 q3 => ?_
  exact k v3 H3 w3 ok3 (st1.trans st3) q3
theorem sa_bin {op : Operator} {f : List Cell → R Cell} {r : R2} (ho : OpR X (binaryOp op) r) (hs : CallS X (r2L r) f) (ha : SA X a ma) (hb : SA X b mb) : SA X (.BinOp a op b pos) (mPrim f [ma, mb]) :=
  sa_prim2 hs ha hb fun _ _ p q => pe_op ho p q
theorem sa_cmp {op : CmpOp} {f : List Cell → R Cell} {r : R2} (ho : OpR X (compareOp op) r) (hs : CallS X (r2L r) f) (hm : behindInMarks op b = false) (ha : SA X a ma) (hb : SA X b mb) : SA X (.Compare a [op] [b] pos) (mPrim f [ma, mb]) :=
  sa_prim2 hs ha hb fun _ _ p q => pe_cmpR ho p q hm
theorem sa_un {op : UnaryOp} {f : List Cell → R Cell} {r : V → Hp → VK → Prop} (ho : UnR X (unaryOp op) r) (hs : CallS X (r1L r) f) (ha : SA X a ma) : SA X (.UnaryOp op a pos) (mPrim f [ma]) :=
  sa_prim1 hs ha fun _ p => pe_un ho p
end

/-! ### rules for the operations -/
/-- both rules -/
def orL (r r' : List V → Hp → VK → Prop) : List V → Hp → VK → Prop := fun vs H Q => r vs H Q ∨ r' vs H Q
def orF (f g : List Cell → R Cell) : List Cell → R Cell := fun cs => match f cs with
  | .ok c => .ok c
  | _ => g cs
section
variable {X : Cx}
theorem CallS.or {r r' : List V → Hp → VK → Prop} {f g : List Cell → R Cell} (h : CallS X r f) (h' : CallS X r' g) : CallS X (fun vs H Q => r vs H Q ∨ r' vs H Q) (orF f g) := by
  intro n H w σ ρ cs vs c Q ok ow e k
  unfold orF at e
  cases e1 : f cs with
  | ok c' =>
    rw [e1] at e
    cases e
    exact .inl (h n H w σ ρ cs vs _ Q ok ow e1 k)
  | exc _ _ => rw [e1] at e; exact .inr (h' n H w σ ρ cs vs c Q ok ow e k)
  | bad => rw [e1] at e; exact .inr (h' n H w σ ρ cs vs c Q ok ow e k)
theorem CallS.of {r r' : List V → Hp → VK → Prop} {f : List Cell → R Cell} (h : CallS X r f) (i : ∀ vs H Q, r vs H Q → r' vs H Q) : CallS X r' f := by
  intro n H w σ ρ cs vs c Q ok ow e k
  exact i _ _ _ (h n H w σ ρ cs vs c Q ok ow e k)
theorem CallS.or2 {r r' : R2} {f g : List Cell → R Cell} (h : CallS X (r2L r) f) (h' : CallS X (r2L r') g) : CallS X (r2L fun x y H Q => r x y H Q ∨ r' x y H Q) (orF f g) :=
  (h.or h').of fun vs H Q q => by
    match vs, q with
    | [x, y], q => exact q
    | [], q => exact q.elim id id
    | [_], q => exact q.elim id id
    | _ :: _ :: _ :: _, q => exact q.elim id id
/-- the value at a cell whose datum is a scalar -/
theorem ow_int {K : PySem.W.Frag} {H : Hp} {w : OM} {o : Own} {k : Nat} {i : Int} {v : V} (h : Ow K H w o k (.int i) v) : v = .int i := by
  cases h with
  | fz h => cases h; rfl
theorem ow_bl {K : PySem.W.Frag} {H : Hp} {w : OM} {o : Own} {k : Nat} {i : Bool} {v : V} (h : Ow K H w o k (.bl i) v) : v = .bl i := by
  cases h with
  | fz h => cases h; rfl
theorem ow_str {K : PySem.W.Frag} {H : Hp} {w : OM} {o : Own} {k : Nat} {i : Str} {v : V} (h : Ow K H w o k (.str i) v) : v = .str i := by
  cases h with
  | fz h => cases h; rfl
theorem ow_non {K : PySem.W.Frag} {H : Hp} {w : OM} {o : Own} {k : Nat} {v : V} (h : Ow K H w o k .non v) : v = .non := by
  cases h with
  | fz h => cases h; rfl
theorem ow_tup {K : PySem.W.Frag} {H : Hp} {w : OM} {o : Own} {k : Nat} {ds : List D} {v : V} (h : Ow K H w o k (.tup ds) v) : ∃ a vs, v = .ref a ∧ TupAt K H w a vs ∧ FzL K H w ds vs := by
  cases h with
  | fz h => cases h with
    | tup h t => exact ⟨_, _, rfl, h, t⟩

/-- a read of a datum, whoever owns it -/
theorem Ow1L.sqs {K : PySem.W.Frag} {H : Hp} {w : OM} {o : Own} : ∀ {ds : List D} {vs : List V}, Ow1L K H w o ds vs → ds.length = vs.length
  | _, _, .nil => rfl
  | _, _, .cons _ _ _ r => by rw [List.length_cons, List.length_cons, r.sqs]
theorem ow_lst {K : PySem.W.Frag} {H : Hp} {w : OM} {o : Own} {k : Nat} {ds : List D} {v : V} (h : Ow K H w o k (.lst ds) v) : ∃ a vs, v = .ref a ∧ H a = some (.lst vs) ∧ ds.length = vs.length ∧ (k ≤ 1 → FzL K H w ds vs) := by
  cases h with
  | fz h => cases h with
    | lst h n t => exact ⟨_, _, rfl, h, t.length, fun _ => t⟩
  | lst h n t => exact ⟨_, _, rfl, h, t.length, fun _ => t⟩
  | lst2 h n t nd => exact ⟨_, _, rfl, h, t.sqs, fun z => absurd z (by decide)⟩
theorem ow_scr {K : PySem.W.Frag} {H : Hp} {w : OM} {o : Own} {k : Nat} {ds : List D} {v : V} (h : Ow K H w o k (.scr ds) v) : ∃ a vs, v = .ref a ∧ SqL K H a vs ∧ FzL K H w ds vs := by
  cases h with
  | fz h => cases h with
    | scr h t => exact ⟨_, _, rfl, h.sq, t⟩

def fI2 (g : Int → Int → R D) : List Cell → R Cell
  | [⟨.int i, _⟩, ⟨.int j, _⟩] => do
    let d ← g i j
    R.ok (Cell.fz d)
  | _ => .bad
def isSc : D → V → Bool
  | .int i, .int j => decide (i = j)
  | .bl i, .bl j => decide (i = j)
  | .str i, .str j => decide (i = j)
  | .non, .non => true
  | _, _ => false
theorem isSc.fz {d : D} {v : V} (h : isSc d v = true) {K : PySem.W.Frag} {H : Hp} {w : OM} : Fz K H w d v := by
  unfold isSc at h
  split at h
  · cases of_decide_eq_true h; exact .int _
  · cases of_decide_eq_true h; exact .bl _
  · cases of_decide_eq_true h; exact .str _
  · exact .non
  · cases h
theorem s_I2 {C : Int → Int → Prop} {gv : Int → Int → V} {g : Int → Int → R D} (h : ∀ i j d, g i j = .ok d → C i j ∧ isSc d (gv i j) = true) : CallS X (r2L (rI C gv)) (fI2 g) := by
  intro n H w σ ρ cs vs c Q ok ow e k
  unfold fI2 at e
  split at e
  · obtain ⟨d, e1, e⟩ := R.of_bind e
    cases e
    cases ow with
    | cons n1 h1 t =>
      cases t with
      | cons n2 h2 t =>
        cases t
        cases ow_int h1
        cases ow_int h2
        obtain ⟨hc, hd⟩ := h _ _ _ e1
        exact ⟨_, _, rfl, rfl, hc, k _ H w ok Step.refl (.fz (isSc.fz hd))⟩
  · cases e
theorem s_I20 {gv : Int → Int → V} {g : Int → Int → D} (h : ∀ i j, isSc (g i j) (gv i j) = true) : CallS X (r2L (rI0 gv)) (fI2 fun i j => .ok (g i j)) :=
  (s_I2 (C := fun _ _ => True) (gv := gv) (g := fun i j => .ok (g i j)) fun i j d e => by cases e; exact ⟨trivial, h i j⟩).of fun vs H Q q => by
    match vs, q with
    | [x, y], ⟨i, j, e1, e2, _, q⟩ => exact ⟨i, j, e1, e2, q⟩
end
end Z

/-! Z: the operations. -/
namespace Z
open PySem PySem.Spec PyProof.Rows L2

/-! ### data as the library tells it -/
mutual
def D.py : D → PyData
  | .non => .none
  | .bl b => .bool b
  | .int i => .int i
  | .str x => .str x
  | .tup l => .tuple (D.pyL l)
  | .lst l => .list (D.pyL l)
  | .scr l => .list (D.pyL l)
  | .dct _ _ => .dict []
def D.pyL : List D → List PyData
  | [] => []
  | d :: r => d.py :: D.pyL r
end
/-- may be compared: no dict within, at most n deep -/
def D.okd : Nat → D → Bool
  | _, .non => true
  | _, .bl _ => true
  | _, .int _ => true
  | _, .str x => strOk x
  | 0, _ => false
  | n + 1, .tup l => l.all (D.okd n)
  | n + 1, .lst l => l.all (D.okd n)
  | n + 1, .scr l => l.all (D.okd n)
  | _ + 1, .dct _ _ => false
where strOk (x : Str) : Bool := x.cps.all (· < 0x110000)
def D.eqv (d e : D) : Bool := PyData.eqv d.py e.py
theorem canLayAll0_of : ∀ {l : List D}, (∀ d ∈ l, d.py.canLay0 = true) → PyData.canLayAll0 (D.pyL l) = true
  | [], _ => by simp [D.pyL, PyData.canLayAll0]
  | d :: r, h => by
    simp only [D.pyL, PyData.canLayAll0, Bool.and_eq_true]
    exact ⟨h d (by simp), canLayAll0_of fun e he => h e (by simp [he])⟩
theorem depthAll_of {n : Nat} : ∀ {l : List D}, (∀ d ∈ l, d.py.depth ≤ n) → PyData.depthAll (D.pyL l) ≤ n
  | [], _ => by simp [D.pyL, PyData.depthAll]
  | d :: r, h => by
    simp only [D.pyL, PyData.depthAll]
    have h1 := h d (by simp)
    have h2 := depthAll_of (n := n) (l := r) fun e he => h e (by simp [he])
    omega
theorem D.okd_py : ∀ {n : Nat} {d : D}, d.okd n = true → d.py.canLay0 = true ∧ d.py.depth ≤ n
  | n, .non, _ => by cases n <;> simp [D.py, PyData.canLay0, PyData.depth]
  | n, .bl _, _ => by cases n <;> simp [D.py, PyData.canLay0, PyData.depth]
  | n, .int _, _ => by cases n <;> simp [D.py, PyData.canLay0, PyData.depth]
  | n, .str x, h => by
    have h' : D.okd.strOk x = true := by cases n <;> exact h
    cases n <;> simp [D.py, PyData.canLay0, PyData.depth] <;> exact h'
  | 0, .tup _, h => by simp [D.okd] at h
  | 0, .lst _, h => by simp [D.okd] at h
  | 0, .scr _, h => by simp [D.okd] at h
  | 0, .dct _ _, h => by simp [D.okd] at h
  | n + 1, .dct _ _, h => by simp [D.okd] at h
  | n + 1, .tup l, h => by
    have h' : ∀ d ∈ l, d.okd n = true := by simpa [D.okd] using h
    have a := canLayAll0_of (l := l) fun d hd => (D.okd_py (h' d hd)).1
    have b := depthAll_of (n := n) (l := l) fun d hd => (D.okd_py (h' d hd)).2
    simp only [D.py, PyData.canLay0, PyData.depth]
    exact ⟨a, by omega⟩
  | n + 1, .lst l, h => by
    have h' : ∀ d ∈ l, d.okd n = true := by simpa [D.okd] using h
    have a := canLayAll0_of (l := l) fun d hd => (D.okd_py (h' d hd)).1
    have b := depthAll_of (n := n) (l := l) fun d hd => (D.okd_py (h' d hd)).2
    simp only [D.py, PyData.canLay0, PyData.depth]
    exact ⟨a, by omega⟩
  | n + 1, .scr l, h => by
    have h' : ∀ d ∈ l, d.okd n = true := by simpa [D.okd] using h
    have a := canLayAll0_of (l := l) fun d hd => (D.okd_py (h' d hd)).1
    have b := depthAll_of (n := n) (l := l) fun d hd => (D.okd_py (h' d hd)).2
    simp only [D.py, PyData.canLay0, PyData.depth]
    exact ⟨a, by omega⟩
theorem D.okd_shaped {d : D} (h : d.okd 60 = true) : SeqAt.shaped d.py = true := by
  obtain ⟨a, b⟩ := D.okd_py h
  unfold SeqAt.shaped
  rw [Bool.and_eq_true]
  exact ⟨a, decide_eq_true (by omega)⟩
section
variable {K : PySem.W.Frag} {H : Hp} {w : OM} {o : Own}
mutual
theorem Fz.dp : ∀ {n : Nat} {d : D} {v : V}, Fz K H w d v → d.okd n = true → Dp K H v d.py
  | _, _, _, .non, _ => .non
  | _, _, _, .bl b, _ => .bl b
  | _, _, _, .int i, _ => .int i
  | _, _, _, .str x, _ => .str x
  | 0, _, _, .tup h t, e => by simp [D.okd] at e
  | 0, _, _, .lst h n t, e => by simp [D.okd] at e
  | 0, _, _, .scr h t, e => by simp [D.okd] at e
  | 0, _, _, .dct h n e t, q => by simp [D.okd] at q
  | m + 1, _, _, .tup h t, e => .tup h.sq (FzL.dp t (by simpa [D.okd] using e))
  | m + 1, _, _, .lst h n t, e => .lst (.inl (.inl h)) (FzL.dp t (by simpa [D.okd] using e))
  | m + 1, _, _, .scr h t, e => .lst h.sq (FzL.dp t (by simpa [D.okd] using e))
  | m + 1, _, _, .dct h n e t, q => by simp [D.okd] at q
theorem FzL.dp : ∀ {n : Nat} {ds : List D} {vs : List V}, FzL K H w ds vs → (∀ d ∈ ds, d.okd n = true) → DpAll K H vs (D.pyL ds)
  | _, _, _, .nil, _ => .nil
  | n, _, _, .cons h t, e => .cons (Fz.dp h (e _ (by simp))) (FzL.dp t fun d hd => e d (by simp [hd]))
end
theorem Ow1L.dp : ∀ {n : Nat} {ds : List D} {vs : List V}, Ow1L K H w o ds vs → (∀ d ∈ ds, d.okd n = true) → DpAll K H vs (D.pyL ds)
  | _, _, _, .nil, _ => .nil
  | 0, _, _, .cons h m t r, e => by have := e _ (List.mem_cons_self ..); simp [D.okd] at this
  | n + 1, _, _, .cons h m t r, e => .cons (.lst (.inl (.inl h)) (FzL.dp t (by have := e _ (List.mem_cons_self ..); simpa [D.okd] using this))) (Ow1L.dp r fun d hd => e d (by simp [hd]))
theorem Ow.dp {n k : Nat} {d : D} {v : V} (h : Ow K H w o k d v) (e : d.okd n = true) : Dp K H v d.py := by
  cases h with
  | fz h => exact h.dp e
  | lst h m t =>
    cases n with
    | zero => simp [D.okd] at e
    | succ n => exact .lst (.inl (.inl h)) (t.dp (n := n) (by simpa [D.okd] using e))
  | dct h m q t => cases n <;> simp [D.okd] at e
  | lst2 h m t nd =>
    cases n with
    | zero => simp [D.okd] at e
    | succ n => exact .lst (.inl (.inl h)) (t.dp (n := n) (by simpa [D.okd] using e))
end

theorem OwA.one {K : PySem.W.Frag} {H : Hp} {w : OM} {c : Cell} {vs : List V} (h : OwA K H w [c] vs) : ∃ v o, vs = [v] ∧ Ow K H w o c.k c.d v := by
  cases h with
  | cons n h t => cases t; exact ⟨_, _, rfl, h⟩
theorem OwA.two {K : PySem.W.Frag} {H : Hp} {w : OM} {c e : Cell} {vs : List V} (h : OwA K H w [c, e] vs) : ∃ v u o q, vs = [v, u] ∧ Ow K H w o c.k c.d v ∧ Ow K H w q e.k e.d u := by
  cases h with
  | cons n h t => cases t with
    | cons n2 h2 t => cases t; exact ⟨_, _, _, _, rfl, h, h2⟩

section
variable {X : Cx}
/-- one scalar out of any cells: the rule's wants are shown, the value is told -/
theorem s_scalar {r : List V → Hp → VK → Prop} {f : List Cell → R Cell}
    (h : ∀ (K : PySem.W.Frag) (H : Hp) (w : OM) (cs : List Cell) (vs : List V) (c : Cell) (Q : VK), K = X.K → OwA K H w cs vs → f cs = .ok c → ∃ d v, c = Cell.fz d ∧ isSc d v = true ∧ (Q v H → r vs H Q)) : CallS X r f := by
  intro n H w σ ρ cs vs c Q ok ow e k
  obtain ⟨d, v, rfl, hs, q⟩ := h X.K H w cs vs c Q rfl ow e
  exact q (k v H w ok Step.refl (.fz (isSc.fz hs)))

/-! #### arithmetic -/
def cmul (i j : Int) : Bool := decide (-(2 ^ 64) < i ∧ i < 2 ^ 64) || decide (-(2 ^ 64) < j ∧ j < 2 ^ 64)
def fSub : List Cell → R Cell := fI2 fun i j => .ok (.int (i - j))
theorem s_sub : CallS X (r2L (rI0 fun i j => .int (i - j))) fSub := s_I20 fun i j => by simp [isSc]
def fDiv : List Cell → R Cell := fI2 fun i j => if 0 < j ∧ j < 1073741824 then .ok (.int (i / j)) else .bad
theorem s_div : CallS X (r2L (rI CDiv fun i j => .int (i / j))) fDiv := s_I2 fun i j d e => by
  split at e
  · cases e; exact ⟨by assumption, by simp [isSc]⟩
  · cases e
def fMod : List Cell → R Cell := fI2 fun i j => if 0 < j then .ok (.int (i % j)) else .bad
theorem s_mod : CallS X (r2L (rI (fun _ j => 0 < j) fun i j => .int (i % j))) fMod := s_I2 fun i j d e => by
  split at e
  · cases e; exact ⟨by assumption, by simp [isSc]⟩
  · cases e
def cpow (i j : Int) : Bool := decide (0 ≤ j) && decide (j ≤ 1000000) && decide (i.natAbs < 2 ^ 64)
theorem cpow_ok {i j : Int} (h : cpow i j = true) : CPow i j := by
  unfold cpow at h
  simp only [Bool.and_eq_true, decide_eq_true_eq] at h
  exact ⟨h.1.1, h.1.2, h.2⟩
def fPow : List Cell → R Cell := fI2 fun i j => if cpow i j then .ok (.int (i ^ j.toNat)) else .bad
theorem s_pow : CallS X (r2L (rI CPow fun i j => .int (i ^ j.toNat))) fPow := s_I2 fun i j d e => by
  split at e
  · cases e; exact ⟨cpow_ok (by assumption), by simp [isSc]⟩
  · cases e
def fShl : List Cell → R Cell := fI2 fun i j => if cpow i j then .ok (.int (i * 2 ^ j.toNat)) else .bad
theorem s_shl : CallS X (r2L (rI CPow fun i j => .int (i * 2 ^ j.toNat))) fShl := s_I2 fun i j d e => by
  split at e
  · cases e; exact ⟨cpow_ok (by assumption), by simp [isSc]⟩
  · cases e
def fShr : List Cell → R Cell := fI2 fun i j => if 0 ≤ j then .ok (.int (i / 2 ^ j.toNat)) else .bad
theorem s_shr : CallS X (r2L (rI (fun _ j => 0 ≤ j) fun i j => .int (i / 2 ^ j.toNat))) fShr := s_I2 fun i j d e => by
  split at e
  · cases e; exact ⟨by assumption, by simp [isSc]⟩
  · cases e
def fBand : List Cell → R Cell := fI2 fun i j => .ok (.int (Builtin.bitAnd i j))
theorem s_band : CallS X (r2L (rI0 fun i j => .int (Builtin.bitAnd i j))) fBand := s_I20 fun i j => by simp [isSc]
def fBor : List Cell → R Cell := fI2 fun i j => .ok (.int (Builtin.bitOr i j))
theorem s_bor : CallS X (r2L (rI0 fun i j => .int (Builtin.bitOr i j))) fBor := s_I20 fun i j => by simp [isSc]
/-- + of ints, texts, tuples, lists -/
def fAdd : List Cell → R Cell
  | [⟨.int i, _⟩, ⟨.int j, _⟩] => .ok (Cell.fz (.int (i + j)))
  | [⟨.str x, _⟩, ⟨.str y, _⟩] => if x.length + y.length ≤ 16777216 then .ok (Cell.fz (.str (x ++ y))) else .bad
  | [⟨.tup l, _⟩, ⟨.tup m, _⟩] => if l.length + m.length ≤ 16777216 then .ok (Cell.fz (.tup (l ++ m))) else .bad
  | [⟨.lst l, k⟩, ⟨.lst m, j⟩] => if k ≤ 1 ∧ j ≤ 1 ∧ l.length + m.length ≤ 16777216 then .ok ⟨.lst (l ++ m), 1⟩ else .bad
  | _ => .bad
def rAddAll (K : PySem.W.Frag) : R2 := fun x y H Q => (rI0 (fun i j => .int (i + j)) x y H Q) ∨ (∃ i j, x = .str i ∧ y = .str j ∧ i.length + j.length ≤ sizeLine ∧ Q (.str (i ++ j)) H) ∨ rCatF K x y H Q ∨ rCat x y H Q
theorem op_addAll : OpR X (binaryOp .Add) (rAddAll X.K) := op_add.or (op_add_str.or (op_catF.or op_cat))
theorem s_add : CallS X (r2L (rAddAll X.K)) fAdd := by
  intro n H w σ ρ cs vs c Q ok ow e k
  unfold fAdd at e
  split at e
  · cases e
    obtain ⟨v, u, o, q, rfl, h1, h2⟩ := ow.two
    cases ow_int h1
    cases ow_int h2
    exact .inl ⟨_, _, rfl, rfl, k _ H w ok Step.refl (.fz (.int _))⟩
  · split at e
    · cases e
      obtain ⟨v, u, o, q, rfl, h1, h2⟩ := ow.two
      cases ow_str h1
      cases ow_str h2
      exact .inr (.inl ⟨_, _, rfl, rfl, by rw [sizeLine_eq]; assumption, k _ H w ok Step.refl (.fz (.str _))⟩)
    · cases e
  · split at e
    · cases e
      obtain ⟨v, u, o, q, rfl, h1, h2⟩ := ow.two
      obtain ⟨a, xs, rfl, ta, fa⟩ := ow_tup h1
      obtain ⟨b, ys, rfl, tb, fb⟩ := ow_tup h2
      have la := fa.length
      have lb := fb.length
      refine .inr (.inr (.inl ⟨a, b, xs, ys, rfl, rfl, ta.sq, tb.sq, by rw [sizeLine_eq, ← la, ← lb]; assumption, fun e0 => ?_, fun _ e0 => ?_, fun n1 n2 p ob hp hd => ?_⟩))
      · subst e0
        cases fa
        exact k _ H w ok Step.refl (.fz (.tup tb fb))
      · subst e0
        cases fb
        refine k _ H w ok Step.refl (.fz ?_)
        show Fz X.K H w (.tup (_ ++ [])) _
        rw [List.append_nil]
        exact .tup ta fa
      · refine k _ _ (w.put p .no) (ok.new hp .no) (Step.new hp) (.fz (.tup (.inl ⟨⟨ob, upd_same, hd⟩, OM.put_same⟩) ?_))
        exact ((fa.append fb).step (Kp.new hp .no))
    · cases e
  · split at e
    · rename_i hc
      cases e
      obtain ⟨v, u, o, q, rfl, h1, h2⟩ := ow.two
      obtain ⟨a, xs, rfl, ta, la, fa⟩ := ow_lst h1
      obtain ⟨b, ys, rfl, tb, lb, fb⟩ := ow_lst h2
      refine .inr (.inr (.inr ⟨a, b, xs, ys, rfl, rfl, ta, tb, by rw [sizeLine_eq, ← la, ← lb]; exact hc.2.2, fun p hp => ?_⟩))
      refine k _ _ (w.put p (.tm n)) (ok.new hp _) (Step.new hp) (.lst upd_same OM.put_same ?_)
      exact (((fa hc.1).append (fb hc.2.1)).step (Kp.new hp .no))
    · cases e
  · cases e
/-- * of ints, of a list and an int -/
def fMul : List Cell → R Cell
  | [⟨.int i, _⟩, ⟨.int j, _⟩] => if cmul i j then .ok (Cell.fz (.int (i * j))) else .bad
  | [⟨.lst l, k⟩, ⟨.int j, _⟩] => if k ≤ 1 ∧ -(2 ^ 63) ≤ j ∧ j < 2 ^ 63 ∧ l.length * j.toNat ≤ 16777216 then .ok ⟨.lst (List.replicate j.toNat l).flatten, 1⟩ else .bad
  | _ => .bad
theorem cmul_ok {i j : Int} (h : cmul i j = true) : CMul i j := by
  unfold cmul at h
  simpa [CMul] using h
def rMulAll : R2 := fun x y H Q => (rI CMul (fun i j => .int (i * j)) x y H Q) ∨ rRep x y H Q
theorem op_mulAll : OpR X (binaryOp .Mult) rMulAll := op_mul.or op_rep
theorem s_mul : CallS X (r2L rMulAll) fMul := by
  intro n H w σ ρ cs vs c Q ok ow e k
  unfold fMul at e
  split at e
  · split at e
    · cases e
      obtain ⟨v, u, o, q, rfl, h1, h2⟩ := ow.two
      cases ow_int h1
      cases ow_int h2
      exact .inl ⟨_, _, rfl, rfl, cmul_ok (by assumption), k _ H w ok Step.refl (.fz (.int _))⟩
    · cases e
  · split at e
    · rename_i hc
      cases e
      obtain ⟨v, u, o, q, rfl, h1, h2⟩ := ow.two
      obtain ⟨a, xs, rfl, ta, la, fa⟩ := ow_lst h1
      cases ow_int h2
      refine .inr ⟨a, _, xs, rfl, rfl, ta, hc.2.1, hc.2.2.1, by rw [sizeLine_eq, ← la]; exact hc.2.2.2, fun p hp => ?_⟩
      exact k _ _ (w.put p (.tm n)) (ok.new hp _) (Step.new hp) (.lst upd_same OM.put_same (((fa hc.1).rep _).step (Kp.new hp .no)))
    · cases e
  · cases e
def fNeg : List Cell → R Cell
  | [⟨.int i, _⟩] => .ok (Cell.fz (.int (-i)))
  | _ => .bad
theorem s_neg : CallS X (r1L (rU fun i => .int (-i))) fNeg := s_scalar fun K H w cs vs c Q _ ow e => by
  unfold fNeg at e
  split at e
  · cases e
    obtain ⟨v, o, rfl, h1⟩ := ow.one
    cases ow_int h1
    exact ⟨_, .int (-_), rfl, by simp [isSc], fun q => ⟨_, rfl, q⟩⟩
  · cases e

/-! #### comparisons -/
def fCmp (p : Int → Int → Bool) : List Cell → R Cell := fI2 fun i j => .ok (.bl (p i j))
theorem s_cmp {p : Int → Int → Bool} : CallS X (r2L (rI0 fun i j => .bl (p i j))) (fCmp p) := s_I20 fun i j => by simp [isSc]
abbrev fLt := fCmp fun i j => decide (i < j)
abbrev fLe := fCmp fun i j => decide (i ≤ j)
abbrev fGt := fCmp fun i j => decide (j < i)
abbrev fGe := fCmp fun i j => decide (j ≤ i)
def fEq : List Cell → R Cell
  | [c, e] => if c.d.okd 60 && e.d.okd 60 then .ok (Cell.fz (.bl (c.d.eqv e.d))) else .bad
  | _ => .bad
def fNe : List Cell → R Cell
  | [c, e] => if c.d.okd 60 && e.d.okd 60 then .ok (Cell.fz (.bl (!c.d.eqv e.d))) else .bad
  | _ => .bad
theorem s_eq : CallS X (r2L (rEqD X.K)) fEq := s_scalar fun K H w cs vs c Q hK ow e => by
  subst hK
  unfold fEq at e
  split at e
  · split at e
    · rename_i c1 c2 hc
      cases e
      rw [Bool.and_eq_true] at hc
      obtain ⟨v, u, o, q, rfl, h1, h2⟩ := ow.two
      exact ⟨_, .bl (c1.d.eqv c2.d), rfl, by simp [isSc], fun q => ⟨_, _, h1.dp hc.1, h2.dp hc.2, D.okd_shaped hc.1, D.okd_shaped hc.2, q⟩⟩
    · cases e
  · cases e
theorem s_ne : CallS X (r2L (rNeD X.K)) fNe := s_scalar fun K H w cs vs c Q hK ow e => by
  subst hK
  unfold fNe at e
  split at e
  · split at e
    · rename_i c1 c2 hc
      cases e
      rw [Bool.and_eq_true] at hc
      obtain ⟨v, u, o, q, rfl, h1, h2⟩ := ow.two
      exact ⟨_, .bl (!c1.d.eqv c2.d), rfl, by simp [isSc], fun q => ⟨_, _, h1.dp hc.1, h2.dp hc.2, D.okd_shaped hc.1, D.okd_shaped hc.2, q⟩⟩
    · cases e
  · cases e
def isNon : D → Bool
  | .non => true
  | _ => false
theorem isNon_ow {K : PySem.W.Frag} {H : Hp} {w : OM} {o : Own} {k : Nat} {d : D} {v : V} (h : Ow K H w o k d v) : decide (v = .non) = isNon d := by
  cases h with
  | fz h => cases h <;> simp [isNon]
  | _ => simp [isNon]
def fIsN : List Cell → R Cell
  | [c, ⟨.non, _⟩] => .ok (Cell.fz (.bl (isNon c.d)))
  | _ => .bad
def fNotN : List Cell → R Cell
  | [c, ⟨.non, _⟩] => .ok (Cell.fz (.bl (!isNon c.d)))
  | _ => .bad
theorem s_isN : CallS X (r2L fun x y H Q => y = .non ∧ Q (.bl (decide (x = .non))) H) fIsN := s_scalar fun K H w cs vs c Q hK ow e => by
  unfold fIsN at e
  split at e
  · rename_i c1 _
    cases e
    obtain ⟨v, u, o, q, rfl, h1, h2⟩ := ow.two
    cases ow_non h2
    exact ⟨_, .bl (isNon c1.d), rfl, by simp [isSc], fun q => ⟨rfl, by rw [isNon_ow h1]; exact q⟩⟩
  · cases e
theorem s_notN : CallS X (r2L fun x y H Q => y = .non ∧ Q (.bl (!decide (x = .non))) H) fNotN := s_scalar fun K H w cs vs c Q hK ow e => by
  unfold fNotN at e
  split at e
  · rename_i c1 _
    cases e
    obtain ⟨v, u, o, q, rfl, h1, h2⟩ := ow.two
    cases ow_non h2
    exact ⟨_, .bl (!isNon c1.d), rfl, by simp [isSc], fun q => ⟨rfl, by rw [isNon_ow h1]; exact q⟩⟩
  · cases e
end
end Z

/-! Z: in, calls of built-ins, subscripts, displays. -/
namespace Z
open PySem PySem.Spec PyProof.Rows L2
theorem D.pyL_map : ∀ l : List D, D.pyL l = l.map D.py
  | [] => rfl
  | d :: r => by rw [D.pyL, D.pyL_map r, List.map_cons]
theorem any_py (d : D) (l : List D) : ((D.pyL l).any fun z => PyData.eqv z d.py) = l.any fun z => z.eqv d := by
  rw [D.pyL_map, List.any_map]
  rfl
section
variable {X : Cx}
def rInT (K : PySem.W.Frag) : R2 := fun x y H Q => ∃ d ds, Dp K H x d ∧ Dp K H y (.tuple ds) ∧ SeqAt.shaped d = true ∧ SeqAt.shaped (.tuple ds) = true ∧ Q (.bl (ds.any fun z => PyData.eqv z d)) H
def rNotInT (K : PySem.W.Frag) : R2 := fun x y H Q => ∃ d ds, Dp K H x d ∧ Dp K H y (.tuple ds) ∧ SeqAt.shaped d = true ∧ SeqAt.shaped (.tuple ds) = true ∧ Q (.bl (!ds.any fun z => PyData.eqv z d)) H
theorem op_inT (hu : X.A.units + 65 < cLine) : OpR X (compareOp .In) (rInT X.K) := by
  intro pins s σ H x y v u Q I rx ry h
  obtain ⟨d, ds, hd, he, sd, se, q⟩ := h
  obtain ⟨as, r1⟩ := Dp.reads I d x v hd rx
  obtain ⟨bs, r2⟩ := Dp.reads I (.tuple ds) y u he ry
  exact SeqAt.in_tuple_reads r2 r1 (SeqAt.canLay_of_shaped se) (SeqAt.canLay_of_shaped sd) (room_in_shaped sd hu) ⟨.bl _, H, I, rfl, q⟩
theorem op_notInT (hu : X.A.units + 65 < cLine) : OpR X (compareOp .NotIn) (rNotInT X.K) := by
  intro pins s σ H x y v u Q I rx ry h
  obtain ⟨d, ds, hd, he, sd, se, q⟩ := h
  obtain ⟨as, r1⟩ := Dp.reads I d x v hd rx
  obtain ⟨bs, r2⟩ := Dp.reads I (.tuple ds) y u he ry
  exact SeqAt.notIn_tuple_reads r2 r1 (SeqAt.canLay_of_shaped se) (SeqAt.canLay_of_shaped sd) (room_in_shaped sd hu) ⟨.bl _, H, I, rfl, q⟩
def sign? (x : Str) : Option Nat := match x.cps.toList with
  | [c] => some c
  | _ => none
theorem sign?_eq {x : Str} {c : Nat} (h : sign? x = some c) : x = ⟨#[c]⟩ := by
  obtain ⟨a⟩ := x
  unfold sign? at h
  have h' : (match a.toList with | [c] => some c | _ => none) = some c := h
  split at h'
  · rename_i e
    cases h'
    have : a = #[c] := by rw [← Array.toArray_toList (xs := a), e]
    rw [this]
  · cases h'
/-- x in y -/
def inB (x y : D) : R Bool := match y with
  | .tup l => if x.okd 60 && (D.tup l).okd 60 then .ok (l.any fun z => z.eqv x) else .bad
  | .lst l => if x.okd 60 && (D.lst l).okd 60 then .ok (l.any fun z => z.eqv x) else .bad
  | .str z => match x with
    | .str c => match sign? c with
      | some n => .ok (decide (n ∈ z.cps.toList))
      | none => .bad
    | _ => .bad
  | _ => .bad
def fIn (neg : Bool) : List Cell → R Cell
  | [c, e] => do
    let b ← inB c.d e.d
    R.ok (Cell.fz (.bl (neg ^^ b)))
  | _ => .bad
def rInAll (K : PySem.W.Frag) : R2 := fun x y H Q => rInT K x y H Q ∨ rInD K x y H Q ∨ ∃ (c : Nat) (z : Str), x = .str ⟨#[c]⟩ ∧ y = .str z ∧ Q (.bl (decide (c ∈ z.cps.toList))) H
def rNotInAll (K : PySem.W.Frag) : R2 := fun x y H Q => rNotInT K x y H Q ∨ rNotInD K x y H Q ∨ ∃ (c : Nat) (z : Str), x = .str ⟨#[c]⟩ ∧ y = .str z ∧ Q (.bl (!decide (c ∈ z.cps.toList))) H
theorem op_inAll (hu : X.A.units + 65 < cLine) : OpR X (compareOp .In) (rInAll X.K) := (op_inT hu).or ((op_inD hu).or op_in_sign)
theorem op_notInAll (hu : X.A.units + 65 < cLine) : OpR X (compareOp .NotIn) (rNotInAll X.K) := (op_notInT hu).or ((op_notInD hu).or op_notIn_sign)
theorem inB_ok {H : Hp} {w : OM} {c e : Cell} {x y : V} {o o' : Own} {b : Bool} (h1 : Ow X.K H w o c.k c.d x) (h2 : Ow X.K H w o' e.k e.d y) (h : inB c.d e.d = .ok b) :
    (∃ d ds, Dp X.K H x d ∧ Dp X.K H y (.tuple ds) ∧ SeqAt.shaped d = true ∧ SeqAt.shaped (.tuple ds) = true ∧ (ds.any fun z => PyData.eqv z d) = b) ∨
    (∃ d ds, Dp X.K H x d ∧ Dp X.K H y (.list ds) ∧ SeqAt.shaped d = true ∧ SeqAt.shaped (.list ds) = true ∧ (ds.any fun z => PyData.eqv z d) = b) ∨
    ∃ (c : Nat) (z : Str), x = .str ⟨#[c]⟩ ∧ y = .str z ∧ decide (c ∈ z.cps.toList) = b := by
  obtain ⟨d1, k1⟩ := c
  obtain ⟨d2, k2⟩ := e
  simp only at h h1 h2
  unfold inB at h
  split at h
  · split at h
    · rename_i l hc
      cases h
      rw [Bool.and_eq_true] at hc
      exact .inl ⟨_, _, h1.dp hc.1, by have := h2.dp hc.2; rw [D.py] at this; exact this, D.okd_shaped hc.1, by have := D.okd_shaped hc.2; rw [D.py] at this; exact this, any_py _ _⟩
    · cases h
  · split at h
    · rename_i l hc
      cases h
      rw [Bool.and_eq_true] at hc
      exact .inr (.inl ⟨_, _, h1.dp hc.1, by have := h2.dp hc.2; rw [D.py] at this; exact this, D.okd_shaped hc.1, by have := D.okd_shaped hc.2; rw [D.py] at this; exact this, any_py _ _⟩)
    · cases h
  · split at h
    · split at h
      · rename_i hs
        cases h
        cases ow_str h1
        cases ow_str h2
        rw [sign?_eq hs]
        exact .inr (.inr ⟨_, _, rfl, rfl, rfl⟩)
      · cases h
    · cases h
  · cases h
theorem s_in : CallS X (r2L (rInAll X.K)) (fIn false) := s_scalar fun K H w cs vs c Q hK ow e => by
  subst hK
  unfold fIn at e
  split at e
  · obtain ⟨b, e1, e⟩ := R.of_bind e
    cases e
    obtain ⟨v, u, o, q, rfl, h1, h2⟩ := ow.two
    refine ⟨_, .bl b, rfl, by simp [isSc], fun q => ?_⟩
    rcases inB_ok h1 h2 e1 with ⟨d, ds, a1, a2, a3, a4, rfl⟩ | ⟨d, ds, a1, a2, a3, a4, rfl⟩ | ⟨c, z, rfl, rfl, rfl⟩
    · exact .inl ⟨d, ds, a1, a2, a3, a4, q⟩
    · exact .inr (.inl ⟨d, ds, a1, a2, a3, a4, q⟩)
    · exact .inr (.inr ⟨c, z, rfl, rfl, q⟩)
  · cases e
theorem s_notIn : CallS X (r2L (rNotInAll X.K)) (fIn true) := s_scalar fun K H w cs vs c Q hK ow e => by
  subst hK
  unfold fIn at e
  split at e
  · obtain ⟨b, e1, e⟩ := R.of_bind e
    cases e
    obtain ⟨v, u, o, q, rfl, h1, h2⟩ := ow.two
    refine ⟨_, .bl (!b), rfl, by simp [isSc], fun q => ?_⟩
    rcases inB_ok h1 h2 e1 with ⟨d, ds, a1, a2, a3, a4, rfl⟩ | ⟨d, ds, a1, a2, a3, a4, rfl⟩ | ⟨c, z, rfl, rfl, rfl⟩
    · exact .inl ⟨d, ds, a1, a2, a3, a4, q⟩
    · exact .inr (.inl ⟨d, ds, a1, a2, a3, a4, q⟩)
    · exact .inr (.inr ⟨c, z, rfl, rfl, q⟩)
  · cases e

/-! ### calls of built-ins -/
theorem sa_callB {id : String} {f : List Cell → R Cell} {r : List V → Hp → VK → Prop} {x : Str} {e : Expr} {es : List Expr} {ms : List AE} {p pos : Pos} (hc : CallR X (.builtin id) r) (hs : CallS X r f) (hm : X.mg x = none) (hv : bootBuiltins x = some (.builtin id)) (ha : SAs X (e :: es) ms)
    (hg : Gl X x := by rfl) (hn : x ≠ "__name__" := by decide) (hdb : (x == ("__debug__" : Str)) = false := by decide)
    (he : starEach (e :: es) X.env = (false, eval e X.env) :: starEach es X.env := by rfl) (hpl : (backTo pos (starEach es X.env)).any (·.1) = false := by rfl) : SA X (.Call (.Name x p) (e :: es) [] pos) (mPrim f ms) :=
  sa_prim hs ha fun _ q => pe_callB hc hg hm hv q hn hdb he hpl
theorem sa_callTy {T : String} {f : List Cell → R Cell} {r : List V → Hp → VK → Prop} {x : Str} {e : Expr} {es : List Expr} {ms : List AE} {p pos : Pos} (hc : CallR X (.type T) r) (hs : CallS X r f) (hm : X.mg x = none) (hv : bootBuiltins x = some (.type T)) (ha : SAs X (e :: es) ms)
    (hg : Gl X x := by rfl) (hn : x ≠ "__name__" := by decide) (hdb : (x == ("__debug__" : Str)) = false := by decide)
    (he : starEach (e :: es) X.env = (false, eval e X.env) :: starEach es X.env := by rfl) (hpl : (backTo pos (starEach es X.env)).any (·.1) = false := by rfl) : SA X (.Call (.Name x p) (e :: es) [] pos) (mPrim f ms) :=
  sa_prim hs ha fun _ q => pe_callTy hc hg hm hv q hn hdb he hpl

/-- len -/
def fLen : List Cell → R Cell
  | [⟨.tup l, _⟩] => .ok (Cell.fz (.int l.length))
  | [⟨.lst l, _⟩] => .ok (Cell.fz (.int l.length))
  | [⟨.scr l, _⟩] => .ok (Cell.fz (.int l.length))
  | [⟨.str x, _⟩] => if x.length ≤ 16777216 then .ok (Cell.fz (.int x.length)) else .bad
  | [⟨.dct ks _, _⟩] => .ok (Cell.fz (.int ks.length))
  | _ => .bad
def rLenD : List V → Hp → VK → Prop := fun xs H Q => ∃ d kvs, xs = [.ref d] ∧ Rd H d (.dK kvs) ∧ Q (.int kvs.length) H
theorem ow_dct {K : PySem.W.Frag} {H : Hp} {w : OM} {o : Own} {k : Nat} {ks : List Key} {ds : List D} {v : V} (h : Ow K H w o k (.dct ks ds) v) : ∃ a kvs, v = .ref a ∧ Rd H a (.dK kvs) ∧ kvs.map (·.1) = ks ∧ FzL K H w ds (kvs.map (·.2)) := by
  cases h with
  | fz h => cases h with
    | dct h n e t => exact ⟨_, _, rfl, h, e, t⟩
  | dct h n e t => exact ⟨_, _, rfl, .inl h, e, t⟩
theorem call_lenDR : CallR X (.builtin "len") rLenD := by
  intro pins s σ H xs us Q I r h
  obtain ⟨d, kvs, rfl, hd, q⟩ := h
  obtain ⟨u, rfl, rx⟩ := vals1 r
  obtain rfl : u = Value.ref d := rx
  exact d_len I hd fun t s' I' => ⟨.int kvs.length, H, I', ⟨t, rfl⟩, q⟩
def rLenAll (K : PySem.W.Frag) : List V → Hp → VK → Prop := fun xs H Q => (∃ x n, xs = [x] ∧ LenV K x H n ∧ Q (.int n) H) ∨ rLenD xs H Q
theorem call_lenAll : CallR X (.builtin "len") (rLenAll X.K) := by
  intro pins s σ H xs us Q I r h
  rcases h with h | h
  · exact call_len pins s σ H xs us Q I r h
  · exact call_lenDR pins s σ H xs us Q I r h
theorem s_len : CallS X (rLenAll X.K) fLen := s_scalar fun K H w cs vs c Q hK ow e => by
  subst hK
  unfold fLen at e
  split at e
  · rename_i l _
    cases e
    obtain ⟨v, o, rfl, h1⟩ := ow.one
    obtain ⟨a, xs, rfl, ta, fa⟩ := ow_tup h1
    exact ⟨_, .int l.length, rfl, by simp [isSc], fun q => .inl ⟨_, _, rfl, .inr ⟨_, ta.sq, fa.length⟩, q⟩⟩
  · rename_i l _
    cases e
    obtain ⟨v, o, rfl, h1⟩ := ow.one
    obtain ⟨a, xs, rfl, ta, la, fa⟩ := ow_lst h1
    exact ⟨_, .int l.length, rfl, by simp [isSc], fun q => .inl ⟨_, _, rfl, .inl ⟨_, .inl (.inl ta), la⟩, q⟩⟩
  · rename_i l _
    cases e
    obtain ⟨v, o, rfl, h1⟩ := ow.one
    obtain ⟨a, xs, rfl, ta, fa⟩ := ow_scr h1
    exact ⟨_, .int l.length, rfl, by simp [isSc], fun q => .inl ⟨_, _, rfl, .inl ⟨_, ta, fa.length⟩, q⟩⟩
  · split at e
    · rename_i x _ hx
      cases e
      obtain ⟨v, o, rfl, h1⟩ := ow.one
      cases ow_str h1
      exact ⟨_, .int x.length, rfl, by simp [isSc], fun q => .inl ⟨_, _, rfl, ⟨by rw [sizeLine_eq]; exact hx, rfl⟩, q⟩⟩
    · cases e
  · rename_i ks _ _
    cases e
    obtain ⟨v, o, rfl, h1⟩ := ow.one
    obtain ⟨a, kvs, rfl, ha, hk, fa⟩ := ow_dct h1
    have el : ks.length = kvs.length := by rw [← hk, List.length_map]
    exact ⟨_, .int ks.length, rfl, by simp [isSc], fun q => .inr ⟨_, _, rfl, ha, by rw [← el]; exact q⟩⟩
  · cases e
/-- tuple(x) -/
def fTuple : List Cell → R Cell
  | [⟨.tup l, _⟩] => .ok (Cell.fz (.tup l))
  | [⟨.lst l, k⟩] => if k ≤ 1 then .ok (Cell.fz (.tup l)) else .bad
  | _ => .bad
theorem s_tuple : CallS X (fun xs H Q => ∃ p ys, xs = [.ref p] ∧ ((SqL X.K H p ys ∧ ∀ l o, H l = none → o.dict = none → Q (.ref l) (upd H l (.frz o (.tup ys)))) ∨ (SqT X.K H p ys ∧ Q (.ref p) H))) fTuple := by
  intro n H w σ ρ cs vs c Q ok ow e k
  unfold fTuple at e
  split at e
  · cases e
    obtain ⟨v, o, rfl, h1⟩ := ow.one
    obtain ⟨a, xs, rfl, ta, fa⟩ := ow_tup h1
    exact ⟨_, _, rfl, .inr ⟨ta.sq, k _ H w ok Step.refl (.fz (.tup ta fa))⟩⟩
  · split at e
    · rename_i hc
      cases e
      obtain ⟨v, o, rfl, h1⟩ := ow.one
      obtain ⟨a, xs, rfl, ta, la, fa⟩ := ow_lst h1
      refine ⟨_, xs, rfl, .inl ⟨.inl (.inl ta), fun p ob hp hd => ?_⟩⟩
      exact k _ _ (w.put p .no) (ok.new hp .no) (Step.new hp) (.fz (.tup (.inl ⟨⟨ob, upd_same, hd⟩, OM.put_same⟩) ((fa hc).step (Kp.new hp .no))))
    · cases e
  · cases e
/-- list(x) -/
def fList : List Cell → R Cell
  | [⟨.tup l, _⟩] => .ok ⟨.lst l, 1⟩
  | [⟨.lst l, k⟩] => if k ≤ 1 then .ok ⟨.lst l, 1⟩ else .bad
  | [⟨.scr l, _⟩] => .ok ⟨.lst l, 1⟩
  | _ => .bad
theorem s_list : CallS X (fun xs H Q => ∃ p ys, xs = [.ref p] ∧ (SqL X.K H p ys ∨ SqT X.K H p ys) ∧ ∀ l, H l = none → Q (.ref l) (upd H l (.lst ys))) fList := by
  intro n H w σ ρ cs vs c Q ok ow e k
  unfold fList at e
  split at e
  · cases e
    obtain ⟨v, o, rfl, h1⟩ := ow.one
    obtain ⟨a, xs, rfl, ta, fa⟩ := ow_tup h1
    refine ⟨_, xs, rfl, .inr ta.sq, fun p hp => ?_⟩
    exact k _ _ (w.put p (.tm n)) (ok.new hp _) (Step.new hp) (.lst upd_same OM.put_same (fa.step (Kp.new hp .no)))
  · split at e
    · rename_i hc
      cases e
      obtain ⟨v, o, rfl, h1⟩ := ow.one
      obtain ⟨a, xs, rfl, ta, la, fa⟩ := ow_lst h1
      refine ⟨_, xs, rfl, .inl (.inl (.inl ta)), fun p hp => ?_⟩
      exact k _ _ (w.put p (.tm n)) (ok.new hp _) (Step.new hp) (.lst upd_same OM.put_same ((fa hc).step (Kp.new hp .no)))
    · cases e
  · cases e
    obtain ⟨v, o, rfl, h1⟩ := ow.one
    obtain ⟨a, xs, rfl, ta, fa⟩ := ow_scr h1
    refine ⟨_, xs, rfl, .inl ta, fun p hp => ?_⟩
    exact k _ _ (w.put p (.tm n)) (ok.new hp _) (Step.new hp) (.lst upd_same OM.put_same (fa.step (Kp.new hp .no)))
  · cases e
/-- int(x) of an int or a bool -/
def fInt : List Cell → R Cell
  | [⟨.int i, _⟩] => .ok (Cell.fz (.int i))
  | [⟨.bl b, _⟩] => .ok (Cell.fz (.int (if b then 1 else 0)))
  | _ => .bad
theorem s_int : CallS X (fun xs H Q => (∃ i, xs = [.int i] ∧ Q (.int i) H) ∨ ∃ k, xs = [.bl k] ∧ Q (.int (if k then 1 else 0)) H) fInt := s_scalar fun K H w cs vs c Q hK ow e => by
  unfold fInt at e
  split at e
  · rename_i i _
    cases e
    obtain ⟨v, o, rfl, h1⟩ := ow.one
    cases ow_int h1
    exact ⟨_, .int i, rfl, by simp [isSc], fun q => .inl ⟨_, rfl, q⟩⟩
  · rename_i b _
    cases e
    obtain ⟨v, o, rfl, h1⟩ := ow.one
    cases ow_bl h1
    exact ⟨_, .int (if b then 1 else 0), rfl, by simp [isSc], fun q => .inr ⟨_, rfl, q⟩⟩
  · cases e
def fAbs : List Cell → R Cell
  | [⟨.int i, _⟩] => .ok (Cell.fz (.int (if i < 0 then -i else i)))
  | _ => .bad
theorem s_abs : CallS X (fun xs H Q => ∃ i, xs = [.int i] ∧ Q (.int (if i < 0 then -i else i)) H) fAbs := s_scalar fun K H w cs vs c Q hK ow e => by
  unfold fAbs at e
  split at e
  · rename_i i _
    cases e
    obtain ⟨v, o, rfl, h1⟩ := ow.one
    cases ow_int h1
    exact ⟨_, .int (if i < 0 then -i else i), rfl, by simp [isSc], fun q => ⟨_, rfl, q⟩⟩
  · cases e
/-- str(n) -/
def fStr : List Cell → R Cell
  | [⟨.int i, _⟩] => if i.natAbs.log2 < 1920 then .ok (Cell.fz (.str (toString i))) else .bad
  | _ => .bad
theorem s_str : CallS X (fun xs H Q => ∃ i, xs = [.int i] ∧ i.natAbs.log2 < 1920 ∧ Q (.str (toString i)) H) fStr := s_scalar fun K H w cs vs c Q hK ow e => by
  unfold fStr at e
  split at e
  · split at e
    · rename_i i _ hi
      cases e
      obtain ⟨v, o, rfl, h1⟩ := ow.one
      cases ow_int h1
      exact ⟨_, .str (toString i), rfl, by simp [isSc], fun q => ⟨_, rfl, hi, q⟩⟩
    · cases e
  · cases e

/-! #### lists of ints, of bools -/
def asInts : List D → Option (List Int)
  | [] => some []
  | .int i :: r => match asInts r with
    | some is => some (i :: is)
    | none => none
  | _ :: _ => none
theorem asInts_map : ∀ ns : List Int, asInts (ns.map D.int) = some ns
  | [] => rfl
  | n :: ns => by rw [List.map_cons, asInts, asInts_map ns]
theorem asInts_eq : ∀ {l : List D} {ns : List Int}, asInts l = some ns → l = ns.map D.int
  | [], ns, h => by cases h; rfl
  | d :: r, ns, h => by
    cases d with
    | int i =>
      unfold asInts at h
      cases e : asInts r with
      | none => rw [e] at h; cases h
      | some is => rw [e] at h; cases h; rw [asInts_eq e]; rfl
    | _ => cases h
def asBls : List D → Option (List Bool)
  | [] => some []
  | .bl i :: r => match asBls r with
    | some is => some (i :: is)
    | none => none
  | _ :: _ => none
theorem asBls_map : ∀ ns : List Bool, asBls (ns.map D.bl) = some ns
  | [] => rfl
  | n :: ns => by rw [List.map_cons, asBls, asBls_map ns]
theorem asBls_eq : ∀ {l : List D} {ns : List Bool}, asBls l = some ns → l = ns.map D.bl
  | [], ns, h => by cases h; rfl
  | d :: r, ns, h => by
    cases d with
    | bl i =>
      unfold asBls at h
      cases e : asBls r with
      | none => rw [e] at h; cases h
      | some is => rw [e] at h; cases h; rw [asBls_eq e]; rfl
    | _ => cases h
theorem sq_ints {H : Hp} {w : OM} {c : Cell} {v : V} {o : Own} {l : List D} {ns : List Int} (hk : c.k ≤ 1) (hd : c.d = .lst l) (h : Ow X.K H w o c.k c.d v) (e : asInts l = some ns) : ∃ a, v = .ref a ∧ SqL X.K H a (ns.map V.int) := by
  rw [hd] at h
  obtain ⟨a, xs, rfl, ta, la, fa⟩ := ow_lst h
  have f := fa hk
  rw [asInts_eq e] at f
  rw [f.ints] at ta
  exact ⟨a, rfl, .inl (.inl ta)⟩
theorem sq_bls {H : Hp} {w : OM} {c : Cell} {v : V} {o : Own} {l : List D} {ns : List Bool} (hk : c.k ≤ 1) (hd : c.d = .lst l) (h : Ow X.K H w o c.k c.d v) (e : asBls l = some ns) : ∃ a, v = .ref a ∧ SqL X.K H a (ns.map V.bl) := by
  rw [hd] at h
  obtain ⟨a, xs, rfl, ta, la, fa⟩ := ow_lst h
  have f := fa hk
  rw [asBls_eq e] at f
  rw [f.bls] at ta
  exact ⟨a, rfl, .inl (.inl ta)⟩
/-- a rule over a list of ints -/
def onInts (g : List Int → R D) : List Cell → R Cell
  | [⟨.lst l, k⟩] => if k ≤ 1 then match asInts l with
      | some ns => do
        let d ← g ns
        R.ok (Cell.fz d)
      | none => .bad
    else .bad
  | _ => .bad
def onBls (g : List Bool → R D) : List Cell → R Cell
  | [⟨.lst l, k⟩] => if k ≤ 1 then match asBls l with
      | some ns => do
        let d ← g ns
        R.ok (Cell.fz d)
      | none => .bad
    else .bad
  | _ => .bad
theorem s_onInts {r : List V → Hp → VK → Prop} {g : List Int → R D} (h : ∀ H a ns d Q, SqL X.K H a (ns.map V.int) → g ns = .ok d → ∃ v, isSc d v = true ∧ (Q v H → r [.ref a] H Q)) : CallS X r (onInts g) := s_scalar fun K H w cs vs c Q hK ow e => by
  subst hK
  unfold onInts at e
  split at e
  · split at e
    · rename_i hk
      split at e
      · rename_i ns hn
        obtain ⟨d, e1, e⟩ := R.of_bind e
        cases e
        obtain ⟨v, o, rfl, h1⟩ := ow.one
        obtain ⟨a, rfl, sq⟩ := sq_ints hk rfl h1 hn
        obtain ⟨v, hs, q⟩ := h H a ns d Q sq e1
        exact ⟨d, v, rfl, hs, q⟩
      · cases e
    · cases e
  · cases e
theorem s_onBls {r : List V → Hp → VK → Prop} {g : List Bool → R D} (h : ∀ H a ns d Q, SqL X.K H a (ns.map V.bl) → g ns = .ok d → ∃ v, isSc d v = true ∧ (Q v H → r [.ref a] H Q)) : CallS X r (onBls g) := s_scalar fun K H w cs vs c Q hK ow e => by
  subst hK
  unfold onBls at e
  split at e
  · split at e
    · rename_i hk
      split at e
      · rename_i ns hn
        obtain ⟨d, e1, e⟩ := R.of_bind e
        cases e
        obtain ⟨v, o, rfl, h1⟩ := ow.one
        obtain ⟨a, rfl, sq⟩ := sq_bls hk rfl h1 hn
        obtain ⟨v, hs, q⟩ := h H a ns d Q sq e1
        exact ⟨d, v, rfl, hs, q⟩
      · cases e
    · cases e
  · cases e
def fSum : List Cell → R Cell := onInts fun ns => .ok (.int ns.sum)
theorem s_sum : CallS X (rSum X.K) fSum := s_onInts fun H a ns d Q sq e => by
  cases e
  exact ⟨.int ns.sum, by simp [isSc], fun q => ⟨a, ns, rfl, sq, q⟩⟩
def maxL : Int → List Int → Int
  | m, [] => m
  | m, x :: r => maxL (if m < x then x else m) r
def minL : Int → List Int → Int
  | m, [] => m
  | m, x :: r => minL (if x < m then x else m) r
theorem maxL_mem : ∀ (r : List Int) (m : Int), maxL m r ∈ m :: r
  | [], m => by simp [maxL]
  | x :: r, m => by
    unfold maxL
    have h := maxL_mem r (if m < x then x else m)
    split at h <;> rename_i hx
    · rw [if_pos hx]; rcases List.mem_cons.mp h with h | h
      · simp [h]
      · simp [h]
    · rw [if_neg hx]; rcases List.mem_cons.mp h with h | h
      · simp [h]
      · simp [h]
theorem maxL_ge : ∀ (r : List Int) (m : Int), ∀ y ∈ m :: r, y ≤ maxL m r
  | [], m, y, h => by simp at h; subst h; exact Int.le_refl _
  | x :: r, m, y, h => by
    unfold maxL
    have ih := maxL_ge r (if m < x then x else m)
    have h0 := ih _ (List.mem_cons_self ..)
    rcases List.mem_cons.mp h with h | h
    · subst h; split at h0 <;> rename_i hx
      · rw [if_pos hx]; omega
      · rw [if_neg hx]; exact h0
    · rcases List.mem_cons.mp h with h | h
      · subst h; split at h0 <;> rename_i hx
        · rw [if_pos hx]; exact h0
        · rw [if_neg hx]; omega
      · exact ih y (List.mem_cons_of_mem _ h)
theorem minL_mem : ∀ (r : List Int) (m : Int), minL m r ∈ m :: r
  | [], m => by simp [minL]
  | x :: r, m => by
    unfold minL
    have h := minL_mem r (if x < m then x else m)
    split at h <;> rename_i hx
    · rw [if_pos hx]; rcases List.mem_cons.mp h with h | h
      · simp [h]
      · simp [h]
    · rw [if_neg hx]; rcases List.mem_cons.mp h with h | h
      · simp [h]
      · simp [h]
theorem minL_le : ∀ (r : List Int) (m : Int), ∀ y ∈ m :: r, minL m r ≤ y
  | [], m, y, h => by simp at h; subst h; exact Int.le_refl _
  | x :: r, m, y, h => by
    unfold minL
    have ih := minL_le r (if x < m then x else m)
    have h0 := ih _ (List.mem_cons_self ..)
    rcases List.mem_cons.mp h with h | h
    · subst h; split at h0 <;> rename_i hx
      · rw [if_pos hx]; omega
      · rw [if_neg hx]; exact h0
    · rcases List.mem_cons.mp h with h | h
      · subst h; split at h0 <;> rename_i hx
        · rw [if_pos hx]; exact h0
        · rw [if_neg hx]; omega
      · exact ih y (List.mem_cons_of_mem _ h)
/-- max(xs) of a list, max(i, j) -/
def fMax : List Cell → R Cell
  | [⟨.int i, _⟩, ⟨.int j, _⟩] => .ok (Cell.fz (.int (if j > i then j else i)))
  | cs => onInts (fun ns => match ns with
    | [] => .bad
    | x :: r => .ok (.int (maxL x r))) cs
def fMin : List Cell → R Cell
  | [⟨.int i, _⟩, ⟨.int j, _⟩] => .ok (Cell.fz (.int (if j < i then j else i)))
  | cs => onInts (fun ns => match ns with
    | [] => .bad
    | x :: r => .ok (.int (minL x r))) cs
theorem s_max : CallS X (fun xs H Q => (∃ i j, xs = [.int i, .int j] ∧ Q (.int (if j > i then j else i)) H) ∨ rMax X.K xs H Q) fMax := by
  intro n H w σ ρ cs vs c Q ok ow e k
  unfold fMax at e
  split at e
  · cases e
    obtain ⟨v, u, o, q, rfl, h1, h2⟩ := ow.two
    cases ow_int h1
    cases ow_int h2
    exact .inl ⟨_, _, rfl, k _ H w ok Step.refl (.fz (.int _))⟩
  · refine .inr (s_onInts (X := X) (r := rMax X.K) (fun H a ns d Q sq e => ?_) n H w σ ρ cs vs c Q ok ow e k)
    split at e
    · cases e
    · rename_i x r
      cases e
      refine ⟨.int (maxL x r), by simp [isSc], fun q => ⟨a, _, rfl, sq, by simp, fun m hm hle => ?_⟩⟩
      have h1 := maxL_ge r x m hm
      have h2 := hle _ (maxL_mem r x)
      have : m = maxL x r := by omega
      rw [this]; exact q
theorem s_min : CallS X (fun xs H Q => (∃ i j, xs = [.int i, .int j] ∧ Q (.int (if j < i then j else i)) H) ∨ rMin X.K xs H Q) fMin := by
  intro n H w σ ρ cs vs c Q ok ow e k
  unfold fMin at e
  split at e
  · cases e
    obtain ⟨v, u, o, q, rfl, h1, h2⟩ := ow.two
    cases ow_int h1
    cases ow_int h2
    exact .inl ⟨_, _, rfl, k _ H w ok Step.refl (.fz (.int _))⟩
  · refine .inr (s_onInts (X := X) (r := rMin X.K) (fun H a ns d Q sq e => ?_) n H w σ ρ cs vs c Q ok ow e k)
    split at e
    · cases e
    · rename_i x r
      cases e
      refine ⟨.int (minL x r), by simp [isSc], fun q => ⟨a, _, rfl, sq, by simp, fun m hm hle => ?_⟩⟩
      have h1 := minL_le r x m hm
      have h2 := hle _ (minL_mem r x)
      have : m = minL x r := by omega
      rw [this]; exact q
theorem call_maxAll (hc : X.calm = true) : CallR X (.builtin "max") (fun xs H Q => (∃ i j, xs = [.int i, .int j] ∧ Q (.int (if j > i then j else i)) H) ∨ rMax X.K xs H Q) := (call_max2 hc).or (cr_max hc)
theorem call_minAll (hc : X.calm = true) : CallR X (.builtin "min") (fun xs H Q => (∃ i j, xs = [.int i, .int j] ∧ Q (.int (if j < i then j else i)) H) ∨ rMin X.K xs H Q) := (call_min2 hc).or (cr_min hc)
def fAll : List Cell → R Cell := onBls fun bs => .ok (.bl (bs.all id))
def fAny : List Cell → R Cell := onBls fun bs => .ok (.bl (bs.any id))
theorem s_all : CallS X (rAll X.K) fAll := s_onBls fun H a ns d Q sq e => by
  cases e
  exact ⟨.bl (ns.all id), by simp [isSc], fun q => ⟨a, ns, rfl, sq, q⟩⟩
theorem s_any : CallS X (rAny X.K) fAny := s_onBls fun H a ns d Q sq e => by
  cases e
  exact ⟨.bl (ns.any id), by simp [isSc], fun q => ⟨a, ns, rfl, sq, q⟩⟩
/-- sorted(xs) of a list of ints -/
def fSorted : List Cell → R Cell
  | [⟨.lst l, k⟩] => if k ≤ 1 then match asInts l with
      | some ns => if ns.length < 64 then .ok ⟨.lst ((ns.mergeSort (fun a b => decide (a ≤ b))).map D.int), 1⟩ else .bad
      | none => .bad
    else .bad
  | _ => .bad
end
end Z

/-! Z: subscripts, slices, displays, tests. -/
namespace Z
open PySem PySem.Spec PyProof.Rows L2
section
variable {K : PySem.W.Frag} {H : Hp} {w : OM}
theorem atI_fz {ds : List D} {vs : List V} {i : Int} {d : D} (h : FzL K H w ds vs) (e : atI ds i = some d) : ∃ v, atI vs i = some v ∧ Fz K H w d v := by
  unfold atI at e ⊢
  rw [← h.length]
  cases q : ixN ds.length i with
  | none => rw [q] at e; cases e
  | some j =>
    rw [q] at e
    obtain ⟨v, h1, h2⟩ := h.get (i := j) e
    exact ⟨v, h1, h2⟩
end
def keyD : D → Option Key
  | .int i => some (.inl i)
  | .str x => some (.inr x)
  | _ => none
def dGet : List Key → List D → Key → Option D
  | k :: ks, d :: ds, q => if k = q then some d else dGet ks ds q
  | _, _, _ => none
theorem dGet_fz {K : PySem.W.Frag} {H : Hp} {w : OM} {q : Key} : ∀ {ds : List D} {kvs : List (Key × V)}, FzL K H w ds (kvs.map (·.2)) → (∀ d, dGet (kvs.map (·.1)) ds q = some d → ∃ v, valV kvs q = some v ∧ Fz K H w d v) ∧ (dGet (kvs.map (·.1)) ds q = none → valV kvs q = none)
  | [], [], _ => ⟨fun d h => by simp [dGet] at h, fun _ => rfl⟩
  | d :: ds, p :: kvs, .cons h t => by
    obtain ⟨ih1, ih2⟩ := dGet_fz (q := q) t
    by_cases e : p.1 = q
    · rw [List.map_cons, dGet, if_pos e, valV_pos e]
      exact ⟨fun d' z => by cases z; exact ⟨_, rfl, h⟩, fun z => by cases z⟩
    · rw [List.map_cons, dGet, if_neg e, valV_neg e]
      exact ⟨ih1, ih2⟩
def fIxS : List Cell → R Cell
  | [⟨.tup l, _⟩, ⟨.int i, _⟩] => match atI l i with
    | some d => .ok (Cell.fz d)
    | none => .bad
  | [⟨.lst l, k⟩, ⟨.int i, _⟩] => if k ≤ 1 then match atI l i with
      | some d => .ok (Cell.fz d)
      | none => .bad
    else .bad
  | [⟨.scr l, _⟩, ⟨.int i, _⟩] => match atI l i with
    | some d => .ok (Cell.fz d)
    | none => .bad
  | [⟨.str z, _⟩, ⟨.int i, _⟩] => if z.length ≤ 16777216 then match atI z.cps.toList i with
      | some c => .ok (Cell.fz (.str ⟨#[c]⟩))
      | none => .bad
    else .bad
  | _ => .bad
def fIxD : List Cell → R Cell
  | [⟨.dct ks ds, _⟩, c] => match keyD c.d with
    | some q => match dGet ks ds q with
      | some d => .ok (Cell.fz d)
      | none => .bad
    | none => .bad
  | _ => .bad
def fIx : List Cell → R Cell
  | [⟨.dct ks ds, k⟩, c] => fIxD [⟨.dct ks ds, k⟩, c]
  | cs => fIxS cs
theorem keyD_ow {K : PySem.W.Frag} {H : Hp} {w : OM} {o : Own} {k : Nat} {d : D} {v : V} {q : Key} (e : keyD d = some q) (h : Ow K H w o k d v) : v = kV q := by
  cases d with
  | int i => cases e; exact ow_int h
  | str x => cases e; exact ow_str h
  | _ => cases e
section
variable {X : Cx}
theorem s_ixS : CallS X (r2L (rIx X.K)) fIxS := by
  intro n H w σ ρ cs vs c Q ok ow e k
  have fin : ∀ {d : D} {v : V}, c = Cell.fz d → Fz X.K H w d v → Q v H := fun e h => by subst e; exact k _ H w ok Step.refl (.fz h)
  unfold fIxS at e
  split at e
  · split at e
    · rename_i hi
      cases e
      obtain ⟨v, u, o, q, rfl, h1, h2⟩ := ow.two
      cases ow_int h2
      obtain ⟨a, xs, rfl, ta, fa⟩ := ow_tup h1
      obtain ⟨z, hz, fz⟩ := atI_fz fa hi
      exact .inr (.inl ⟨a, xs, _, z, rfl, rfl, ta.sq, hz, fin rfl fz⟩)
    · cases e
  · split at e
    · rename_i hk
      split at e
      · rename_i hi
        cases e
        obtain ⟨v, u, o, q, rfl, h1, h2⟩ := ow.two
        cases ow_int h2
        obtain ⟨a, xs, rfl, ta, la, fa⟩ := ow_lst h1
        obtain ⟨z, hz, fz⟩ := atI_fz (fa hk) hi
        exact .inl ⟨a, xs, _, z, rfl, rfl, .inl (.inl ta), hz, fin rfl fz⟩
      · cases e
    · cases e
  · split at e
    · rename_i hi
      cases e
      obtain ⟨v, u, o, q, rfl, h1, h2⟩ := ow.two
      cases ow_int h2
      obtain ⟨a, xs, rfl, ta, fa⟩ := ow_scr h1
      obtain ⟨z, hz, fz⟩ := atI_fz fa hi
      exact .inl ⟨a, xs, _, z, rfl, rfl, ta, hz, fin rfl fz⟩
    · cases e
  · split at e
    · rename_i hl
      split at e
      · rename_i hi
        cases e
        obtain ⟨v, u, o, q, rfl, h1, h2⟩ := ow.two
        cases ow_int h2
        cases ow_str h1
        exact .inr (.inr ⟨_, _, _, rfl, rfl, by rw [sizeLine_eq]; exact hl, hi, fin rfl (.str _)⟩)
      · cases e
    · cases e
  · cases e
theorem s_ixD : CallS X (r2L fun x y H Q => ∃ a v, x = .ref a ∧ DGet H a y (some v) ∧ Q v H) fIxD := by
  intro n H w σ ρ cs vs c Q ok ow e k
  have fin : ∀ {d : D} {v : V}, c = Cell.fz d → Fz X.K H w d v → Q v H := fun e h => by subst e; exact k _ H w ok Step.refl (.fz h)
  unfold fIxD at e
  split at e
  · split at e
    · rename_i hq
      split at e
      · rename_i hd
        cases e
        obtain ⟨v, u, o, q, rfl, h1, h2⟩ := ow.two
        obtain ⟨a, kvs, rfl, ha, hk, fa⟩ := ow_dct h1
        cases keyD_ow hq h2
        subst hk
        obtain ⟨z, hz, fz⟩ := (dGet_fz fa).1 _ hd
        exact ⟨a, z, rfl, .inl ⟨kvs, _, ha, rfl, hz.symm⟩, fin rfl fz⟩
      · cases e
    · cases e
  · cases e
/-- one of two -/
theorem SA.either {e : Expr} {m1 m2 m : AE} (h1 : SA X e m1) (h2 : SA X e m2) (h : ∀ ρ s ρ', m ρ = .ok (s, ρ') → m1 ρ = .ok (s, ρ') ∨ m2 ρ = .ok (s, ρ')) : SA X e m := by
  obtain ⟨t, p, g⟩ := h1.ex
  obtain ⟨u, q, g'⟩ := h2.ex
  refine ⟨_, PE.or p q, fun n σ H w ρ s ρ' Q ok hm k => ?_⟩
  rcases h ρ s ρ' hm with z | z
  · exact .inl (g n σ H w ρ s ρ' Q ok z k)
  · exact .inr (g' n σ H w ρ s ρ' Q ok z k)
theorem mPrim_either {f g h : List Cell → R Cell} {ms : List AE} (z : ∀ cs, h cs = f cs ∨ h cs = g cs) : ∀ ρ s ρ', mPrim h ms ρ = .ok (s, ρ') → mPrim f ms ρ = .ok (s, ρ') ∨ mPrim g ms ρ = .ok (s, ρ') := by
  intro ρ s ρ' e
  obtain ⟨ss, cs, c, e1, e2, e3, rfl⟩ := mPrim_ok e
  have fin : ∀ f' : List Cell → R Cell, h cs = f' cs → mPrim f' ms ρ = .ok (.v c, ρ') := fun f' q => by
    unfold mPrim
    rw [e1]
    simp only [R.ok_bind]
    rw [e2]
    simp only
    rw [← q, e3]
    rfl
  rcases z cs with z | z
  · exact .inl (fin f z)
  · exact .inr (fin g z)
theorem fIx_either (cs : List Cell) : fIx cs = fIxS cs ∨ fIx cs = fIxD cs := by
  unfold fIx
  split
  · exact .inr rfl
  · exact .inl rfl
theorem sa_ix {a b : Expr} {ma mb : AE} {pos : Pos} (hu : X.A.units + 1 < cLine) (ha : SA X a ma) (hb : SA X b mb) (hs : PlainIx b := by exact fun _ _ => rfl) : SA X (.Subscript a b pos) (mPrim fIx [ma, mb]) :=
  SA.either (sa_prim2 s_ixS ha hb fun t u p q => pe_ix ix_seq p q hs) (sa_prim2 s_ixD ha hb fun t u p q => pe_dget hu p q hs) (mPrim_either fIx_either)

/-! ### slices -/
def cutD (xs : List D) (lo hi : Option Int) : List D := (xs.drop (HT.sIx xs.length 0 lo)).take (HT.sIx xs.length xs.length hi - HT.sIx xs.length 0 lo)
theorem cutD_fz {K : PySem.W.Frag} {H : Hp} {w : OM} {ds : List D} {vs : List V} (h : FzL K H w ds vs) (lo hi : Option Int) : FzL K H w (cutD ds lo hi) (cutV vs lo hi) := by
  unfold cutD cutV
  rw [h.length]
  exact (h.drop _).take _
def fSl (c : Cell) (lo hi : Option Int) : R Cell := match c with
  | ⟨.tup l, _⟩ => .ok (Cell.fz (.tup (cutD l lo hi)))
  | ⟨.lst l, k⟩ => if k ≤ 1 then .ok ⟨.lst (cutD l lo hi), 1⟩ else .bad
  | ⟨.str z, _⟩ => if z.length ≤ 16777216 then .ok (Cell.fz (.str (cutS z lo hi))) else .bad
  | _ => .bad
def evO : Option AE → Env → R (Option Int × Env)
  | none, ρ => .ok (none, ρ)
  | some m, ρ => do
    let (s, ρ1) ← m ρ
    match s.cell ρ1 with
    | some ⟨.int i, _⟩ => R.ok (some i, ρ1)
    | _ => R.bad
structure SPO (X : Cx) (e : Option Expr) (m : Option AE) : Prop where
  ex : ∃ t, PO X e t ∧ ∀ (n : Nat) (σ : L2.St) (H : Hp) (w : OM) (ρ : Env) (o : Option Int) (ρ' : Env) (Q : Option Int → Hp → Prop), Ok X.K H w σ ρ → evO m ρ = .ok (o, ρ') →
    (∀ H' w', Ok X.K H' w' σ ρ' → Step n H w H' w' → Q o H') → t σ H Q
theorem spo_none : SPO X none none := ⟨_, po_none, fun n σ H w ρ o ρ' Q ok h k => by
  cases h
  exact k H w ok Step.refl⟩
theorem spo_some {e : Expr} {m : AE} (h : SA X e m) : SPO X (some e) (some m) := by
  obtain ⟨t, p, g⟩ := h.ex
  refine ⟨_, po_some p, fun n σ H w ρ o ρ' Q ok hm k => ?_⟩
  obtain ⟨⟨s, ρ1⟩, e1, hm⟩ := R.of_bind hm
  dsimp only at hm
  split at hm
  · rename_i i _ hc
    cases hm
    refine g n σ H w ρ s _ _ ok e1 fun v H' w' ok' st sa => ?_
    obtain ⟨o, _, h1⟩ := sa.cell ok' hc
    exact ⟨i, ow_int h1, k H' w' ok' st⟩
  · cases hm
def mSl (a : AE) (lo hi : Option AE) : AE := fun ρ => do
  let (s, ρ1) ← a ρ
  let (l, ρ2) ← evO lo ρ1
  let (u, ρ3) ← evO hi ρ2
  match s.cell ρ3 with
  | some c => do
    let r ← fSl c l u
    R.ok (.v r, ρ3)
  | none => R.bad
def rSlAll (K : PySem.W.Frag) : V → Option Int → Option Int → Hp → VK → Prop := fun x lo hi H Q => rSlF K x lo hi H Q ∨ rSlL K x lo hi H Q ∨ rSlS x lo hi H Q
theorem sa_slice {e : Expr} {m : AE} {lo hi : Option Expr} {ml mh : Option AE} {p2 pos : Pos} (he : SA X e m) (hl : SPO X lo ml) (hh : SPO X hi mh) : SA X (.Subscript e (.Slice lo hi none p2) pos) (mSl m ml mh) := by
  obtain ⟨t, p, g⟩ := he.ex
  obtain ⟨tl, pl, gl⟩ := hl.ex
  obtain ⟨th, ph, gh⟩ := hh.ex
  refine ⟨_, pe_slice (r := rSlAll X.K) (sl_tupF.or (sl_list.or sl_str)) p pl ph, fun n σ H w ρ s ρ' Q ok hm k => ?_⟩
  obtain ⟨⟨s1, ρ1⟩, e1, hm⟩ := R.of_bind hm
  obtain ⟨⟨l, ρ2⟩, e2, hm⟩ := R.of_bind hm
  obtain ⟨⟨u, ρ3⟩, e3, hm⟩ := R.of_bind hm
  dsimp only at hm e2 e3
  split at hm
  · rename_i c hc
    obtain ⟨r, e4, hm⟩ := R.of_bind hm
    cases hm
    refine g n σ H w ρ s1 _ _ ok e1 fun v H1 w1 ok1 st1 sa => ?_
    refine gl (n + 1) σ H1 w1 ρ1 l _ _ ok1 e2 fun H2 w2 ok2 st2 => ?_
    refine gh (n + 1) σ H2 w2 ρ2 u _ _ ok2 e3 fun H3 w3 ok3 st3 => ?_
    have st := st1.trans ((st2.trans st3).mono (Nat.le_succ n))
    obtain ⟨o, _, h1⟩ := (sa.step (st2.trans st3) (Nat.lt_succ_self n)).cell ok3 hc
    unfold fSl at e4
    split at e4
    · cases e4
      obtain ⟨a, xs, rfl, ta, fa⟩ := ow_tup h1
      refine .inl ⟨a, xs, rfl, ta.sq, fun z => ?_, fun _ p ob hp hd => ?_⟩
      · refine k _ H3 w3 ok3 st (.fz (.tup ta ?_))
        unfold cutD
        rw [fa.length, z.1, z.2, List.drop_zero, Nat.sub_zero, ← fa.length, List.take_length]
        exact fa
      · exact k _ _ (w3.put p .no) (ok3.new hp .no) (st.trans (Step.new hp)) (.fz (.tup (.inl ⟨⟨ob, upd_same, hd⟩, OM.put_same⟩) ((cutD_fz fa l u).step (Kp.new hp .no))))
    · split at e4
      · rename_i hk
        cases e4
        obtain ⟨a, xs, rfl, ta, la, fa⟩ := ow_lst h1
        refine .inr (.inl ⟨a, xs, rfl, .inl (.inl ta), fun p hp => ?_⟩)
        exact k _ _ (w3.put p (.tm n)) (ok3.new hp _) (st.trans (Step.new hp)) (.lst upd_same OM.put_same ((cutD_fz (fa hk) l u).step (Kp.new hp .no)))
      · cases e4
    · split at e4
      · rename_i hz
        cases e4
        cases ow_str h1
        exact .inr (.inr ⟨_, rfl, by rw [sizeLine_eq]; exact hz, k _ H3 w3 ok3 st (.fz (.str _))⟩)
      · cases e4
    · cases e4
  · cases hm

/-! ### what is handed on: frozen -/
def esc : Src → Env → R (Cell × Env)
  | .v c, ρ => .ok (c, ρ)
  | .s i, ρ => match ρ.get i with
    | some ⟨d, 0⟩ => .ok (Cell.fz d, ρ)
    | some ⟨d, _ + 1⟩ => .ok (Cell.fz d, ρ.set i (some ⟨d, 0⟩))
    | none => .bad
/-- escapes: the cell's value at tm n; from a slot it is frozen -/
theorem esc_ok {K : PySem.W.Frag} {H : Hp} {w : OM} {σ : L2.St} {ρ ρ' : Env} {n : Nat} {s : Src} {v : V} {c : Cell} (ok : Ok K H w σ ρ) (h : SrcAt K H w σ n s v) (e : esc s ρ = .ok (c, ρ')) :
    ∃ w', Ok K H w' σ ρ' ∧ (∀ m, Step m H w H w') ∧ Ow K H w' (.tm n) c.k c.d v ∧ (∀ o, o ≠ .no → (∀ i, o ≠ .sl i) → Kp o H w H w') := by
  cases s with
  | v c' =>
    cases e
    exact ⟨w, ok, fun _ => Step.refl, h, fun o _ _ a x z _ => ⟨z, rfl⟩⟩
  | s i =>
    unfold esc at e
    dsimp only at e
    have h : σ[i]? = some (some v) := h
    split at e
    · rename_i d hc
      cases e
      obtain ⟨u, e1, q⟩ := ok.slot i _ hc
      rw [h] at e1
      cases e1
      refine ⟨w, ok, fun _ => Step.refl, ?_, fun o _ _ a x z _ => ⟨z, rfl⟩⟩
      cases q with
      | fz q => exact .fz q
    · rename_i d k hc
      cases e
      obtain ⟨u, e1, q⟩ := ok.slot i _ hc
      rw [h] at e1
      cases e1
      refine ⟨w.re (.sl i) .no, ok.freeze hc, fun m => Step.re not_fixed_sl, .fz (q.freeze (by intro z; cases z)), fun o h1 h2 => Kp.re (by intro z; cases z) o (h2 i)⟩
    · cases e
/-- all of a list, frozen -/
def escs : List Src → Env → R (List D × Env)
  | [], ρ => .ok ([], ρ)
  | s :: ss, ρ => do
    let (c, ρ1) ← esc s ρ
    let (ds, ρ2) ← escs ss ρ1
    R.ok (c.d :: ds, ρ2)
theorem SrcsAt.kp {K : PySem.W.Frag} {H : Hp} {w w' : OM} {σ : L2.St} : ∀ {ss : List Src} {vs : List V} {n : Nat}, SrcsAt K H w σ n ss vs → (∀ j, n ≤ j → Kp (.tm j) H w H w') → SrcsAt K H w' σ n ss vs
  | [], [], _, _, _ => trivial
  | [], _ :: _, _, h, _ => h.elim
  | _ :: _, [], _, h, _ => h.elim
  | s :: ss, v :: vs, n, ⟨h, t⟩, k => by
    refine ⟨?_, SrcsAt.kp t fun j hj => k j (by omega)⟩
    cases s with
    | v c => exact Ow.step (k n (Nat.le_refl n)) h
    | s i => exact h
theorem escs_ok {K : PySem.W.Frag} {H : Hp} {σ : L2.St} : ∀ {ss : List Src} {vs : List V} {n : Nat} {w : OM} {ρ ρ' : Env} {ds : List D}, Ok K H w σ ρ → SrcsAt K H w σ n ss vs → escs ss ρ = .ok (ds, ρ') →
    ∃ w', Ok K H w' σ ρ' ∧ Step n H w H w' ∧ FzL K H w' ds vs
  | [], [], n, w, ρ, ρ', ds, ok, _, e => by
    cases e
    exact ⟨w, ok, Step.refl, .nil⟩
  | [], _ :: _, _, _, _, _, _, _, h, _ => h.elim
  | _ :: _, [], _, _, _, _, _, _, h, _ => h.elim
  | s :: ss, v :: vs, n, w, ρ, ρ', ds, ok, ⟨h, t⟩, e => by
    obtain ⟨⟨c, ρ1⟩, e1, e⟩ := R.of_bind e
    obtain ⟨⟨ds', ρ2⟩, e2, e⟩ := R.of_bind e
    cases e
    obtain ⟨w1, ok1, st1, h1, kp1⟩ := esc_ok ok h e1
    have ok2 : Ok K H (w1.re (.tm n) .no) σ ρ1 := ok1.re (by intro z; cases z) (by intro i z; cases z)
    have f1 : Fz K H (w1.re (.tm n) .no) c.d v := h1.freeze (by intro z; cases z)
    have t1 : SrcsAt K H (w1.re (.tm n) .no) σ (n + 1) ss vs := (t.kp fun j hj => kp1 _ (by intro z; cases z) (by intro i z; cases z)).kp fun j hj => Kp.re (by intro z; cases z) _ (by intro z; cases z; omega)
    obtain ⟨w3, ok3, st3, f3⟩ := escs_ok ok2 t1 e2
    refine ⟨w3, ok3, ((st1 n).trans (Step.re not_fixed_tm)).trans (st3.mono (Nat.le_succ n)), .cons (st3.fz f1) f3⟩

/-! ### displays -/
def mTup (ms : List AE) : AE := fun ρ => do
  let (ss, ρ1) ← evs ms ρ
  let (ds, ρ2) ← escs ss ρ1
  R.ok (.v (Cell.fz (.tup ds)), ρ2)
def mLst (ms : List AE) : AE := fun ρ => do
  let (ss, ρ1) ← evs ms ρ
  let (ds, ρ2) ← escs ss ρ1
  R.ok (.v ⟨.lst ds, 1⟩, ρ2)
theorem SrcsAt.length {K : PySem.W.Frag} {H : Hp} {w : OM} {σ : L2.St} : ∀ {ss : List Src} {vs : List V} {n : Nat}, SrcsAt K H w σ n ss vs → ss.length = vs.length
  | [], [], _, _ => rfl
  | [], _ :: _, _, h => h.elim
  | _ :: _, [], _, h => h.elim
  | s :: ss, v :: vs, n, ⟨_, t⟩ => by rw [List.length_cons, List.length_cons, t.length]
theorem evs_length : ∀ {ms : List AE} {ρ ρ' : Env} {ss : List Src}, evs ms ρ = .ok (ss, ρ') → ss.length = ms.length
  | [], _, _, _, h => by cases h; rfl
  | m :: ms, ρ, ρ', ss, h => by
    obtain ⟨⟨s, ρ1⟩, e1, h⟩ := R.of_bind h
    obtain ⟨⟨ss2, ρ2⟩, e2, h⟩ := R.of_bind h
    cases h
    rw [List.length_cons, List.length_cons, evs_length e2]
theorem sa_tup {es : List Expr} {ms : List AE} {x1 : Nat} {pos : Pos} (h : SAs X es ms) (hl : ms.length ≤ 1000 := by decide) : SA X (.Tuple es x1 pos) (mTup ms) := by
  obtain ⟨t, p, g⟩ := h.ex
  refine ⟨_, pe_tupF p, fun n σ H w ρ s ρ' Q ok hm k => ?_⟩
  obtain ⟨⟨ss, ρ1⟩, e1, hm⟩ := R.of_bind hm
  obtain ⟨⟨ds, ρ2⟩, e2, hm⟩ := R.of_bind hm
  cases hm
  refine g n σ H w ρ ss _ _ ok e1 fun vs H1 w1 ok1 st1 sa => ?_
  obtain ⟨w2, ok2, st2, f2⟩ := escs_ok ok1 sa e2
  refine ⟨?_, fun p ob hp hd => ?_⟩
  · rw [sizeLine_eq, ← sa.length, evs_length e1]; omega
  · exact k _ _ (w2.put p .no) (ok2.new hp .no) ((st1.trans st2).trans (Step.new hp)) (.fz (.tup (.inl ⟨⟨ob, upd_same, hd⟩, OM.put_same⟩) (f2.step (Kp.new hp .no))))
theorem sa_lst {es : List Expr} {ms : List AE} {pos : Pos} (h : SAs X es ms) (hl : ms.length ≤ 1000 := by decide) : SA X (.List es pos) (mLst ms) := by
  obtain ⟨t, p, g⟩ := h.ex
  refine ⟨_, pe_lst p, fun n σ H w ρ s ρ' Q ok hm k => ?_⟩
  obtain ⟨⟨ss, ρ1⟩, e1, hm⟩ := R.of_bind hm
  obtain ⟨⟨ds, ρ2⟩, e2, hm⟩ := R.of_bind hm
  cases hm
  refine g n σ H w ρ ss _ _ ok e1 fun vs H1 w1 ok1 st1 sa => ?_
  obtain ⟨w2, ok2, st2, f2⟩ := escs_ok ok1 sa e2
  refine ⟨?_, fun p hp => ?_⟩
  · rw [sizeLine_eq, ← sa.length, evs_length e1]; omega
  · exact k _ _ (w2.put p (.tm n)) (ok2.new hp _) ((st1.trans st2).trans (Step.new hp)) (.lst upd_same OM.put_same (f2.step (Kp.new hp .no)))

/-! ### tests -/
abbrev MT := Env → R (Bool × Env)
structure ST (X : Cx) (e : Expr) (m : MT) : Prop where
  ex : ∃ t, PT X e t ∧ ∀ (n : Nat) (σ : L2.St) (H : Hp) (w : OM) (ρ : Env) (b : Bool) (ρ' : Env) (Q : Bool → Hp → Prop), Ok X.K H w σ ρ → m ρ = .ok (b, ρ') →
    (∀ H' w', Ok X.K H' w' σ ρ' → Step n H w H' w' → Q b H') → t σ H Q
structure SW (X : Cx) (e : Expr) (m : MT) : Prop where
  ex : ∃ t, PW X e t ∧ ∀ (n : Nat) (σ : L2.St) (H : Hp) (w : OM) (ρ : Env) (b : Bool) (ρ' : Env) (Q : Bool → Hp → Prop), Ok X.K H w σ ρ → m ρ = .ok (b, ρ') →
    (∀ H' w', Ok X.K H' w' σ ρ' → Step n H w H' w' → Q b H') → t σ H Q
theorem SW.st {e : Expr} {m : MT} (h : SW X e m) : ST X e m := by
  obtain ⟨t, p, g⟩ := h.ex
  exact ⟨t, p.pt, g⟩
def truth : D → Option Bool
  | .non => some false
  | .bl b => some b
  | .int i => some (i != 0)
  | .str x => if x.length ≤ 16777216 then some ((x.length : Int) != 0) else none
  | .tup l => some (!l.isEmpty)
  | .lst l => some (!l.isEmpty)
  | .scr l => some (!l.isEmpty)
  | .dct _ _ => none
theorem isEmpty_eq {α β : Type} {l : List α} {m : List β} (h : l.length = m.length) : l.isEmpty = m.isEmpty := by
  cases l <;> cases m <;> first | rfl | (simp at h)
theorem truth_ok {H : Hp} {w : OM} {o : Own} {k : Nat} {d : D} {v : V} {b : Bool} (h : Ow X.K H w o k d v) (e : truth d = some b) : TruV X.K v H b := by
  cases d with
  | non => cases e; cases ow_non h; rfl
  | bl c => cases e; cases ow_bl h; rfl
  | int i => cases e; cases ow_int h; rfl
  | str x =>
    have e : (if x.length ≤ 16777216 then some ((x.length : Int) != 0) else none) = some b := e
    split at e
    · rename_i hx
      cases e; cases ow_str h
      exact ⟨by rw [sizeLine_eq]; exact hx, rfl⟩
    · cases e
  | tup l =>
    cases e
    obtain ⟨a, xs, rfl, ta, fa⟩ := ow_tup h
    exact .inr (.inl ⟨xs, ta.sq, by rw [isEmpty_eq fa.length]⟩)
  | lst l =>
    cases e
    obtain ⟨a, xs, rfl, ta, la, fa⟩ := ow_lst h
    exact .inl ⟨xs, .inl (.inl ta), by rw [isEmpty_eq la]⟩
  | scr l =>
    cases e
    obtain ⟨a, xs, rfl, ta, fa⟩ := ow_scr h
    exact .inl ⟨xs, ta, by rw [isEmpty_eq fa.length]⟩
  | dct ks ds => cases e
def mTest (a : AE) : MT := fun ρ => do
  let (s, ρ1) ← a ρ
  match s.cell ρ1 with
  | some c => match truth c.d with
    | some b => R.ok (b, ρ1)
    | none => R.bad
  | none => R.bad
theorem mTest_ok {a : AE} {ρ ρ' : Env} {b : Bool} (h : mTest a ρ = .ok (b, ρ')) : ∃ s c, a ρ = .ok (s, ρ') ∧ s.cell ρ' = some c ∧ truth c.d = some b := by
  obtain ⟨⟨s, ρ1⟩, e1, h⟩ := R.of_bind h
  dsimp only at h
  split at h
  · rename_i c hc
    split at h
    · rename_i hb
      cases h
      exact ⟨s, c, e1, hc, hb⟩
    · cases h
  · cases h
/-- the truth of a value; not for comparisons, and, or, not, if -/
theorem st_truth {e : Expr} {m : AE} (ha : SA X e m) (he : ∀ whole, isTrue e X.env whole = (do let v ← whole; standAt e.pos; holding [v] (truthy v)) := by exact fun _ => rfl) : ST X e (mTest m) := by
  obtain ⟨t, p, g⟩ := ha.ex
  refine ⟨_, pt_truth p he, fun n σ H w ρ b ρ' Q ok hm k => ?_⟩
  obtain ⟨s, c, e1, hc, hb⟩ := mTest_ok hm
  refine g n σ H w ρ s _ _ ok e1 fun v H1 w1 ok1 st1 sa => ?_
  obtain ⟨o, _, h1⟩ := sa.cell ok1 hc
  exact ⟨b, truth_ok h1 hb, k H1 w1 ok1 st1⟩
theorem mTest_bl {m : AE} {ρ ρ' : Env} {b : Bool} (h : mTest m ρ = .ok (b, ρ')) : ∃ s c, m ρ = .ok (s, ρ') ∧ s.cell ρ' = some c ∧ truth c.d = some b := mTest_ok h
/-- a comparison -/
theorem st_cmp {op : CmpOp} {f : List Cell → R Cell} {r : R2} {a b : Expr} {ma mb : AE} {pos : Pos} (ho : OpR X (compareOp op) r) (hs : CallS X (r2L r) f) (hm : behindInMarks op b = false) (ha : SA X a ma) (hb : SA X b mb)
    (hB : ∀ cs c, f cs = .ok c → ∃ k, c = Cell.fz (.bl k)) : ST X (.Compare a [op] [b] pos) (mTest (mPrim f [ma, mb])) := by
  obtain ⟨t, p, h⟩ := ha.ex
  obtain ⟨u, q, g⟩ := hb.ex
  refine ⟨_, pt_cmpR ho p q hm, fun n σ H w ρ bb ρ' Q ok hm k => ?_⟩
  obtain ⟨s, c0, e0, hc0, hb0⟩ := mTest_ok hm
  obtain ⟨ss, cs, c, e1, e2, e3, rfl⟩ := mPrim_ok e0
  cases hc0
  obtain ⟨kk, rfl⟩ := hB _ _ e3
  cases hb0
  obtain ⟨⟨s1, ρ1⟩, f1, e1⟩ := R.of_bind e1
  obtain ⟨⟨ss2, ρ2⟩, f2, e1⟩ := R.of_bind e1
  cases e1
  obtain ⟨⟨s2, ρ3⟩, f3, f2⟩ := R.of_bind f2
  cases f2
  refine h n σ H w ρ s1 ρ1 _ ok f1 fun v H1 w1 ok1 st1 q1 => ?_
  refine g (n + 1) σ H1 w1 ρ1 s2 ρ' _ ok1 f3 fun v2 H2 w2 ok2 st2 q2 => ?_
  refine hs n H2 w2 σ ρ' cs [v, v2] _ _ ok2 (SrcsAt.cells (n := n) (ss := [s1, s2]) (vs := [v, v2]) ok2 ⟨q1.step st2 (Nat.lt_succ_self n), q2, trivial⟩ e2) e3 fun v3 H3 w3 ok3 st3 q3 => ?_
  exact ⟨_, ow_bl q3, k H3 w3 ok3 ((st1.trans (st2.mono (Nat.le_succ n))).trans st3)⟩
theorem bl_I2 {g : Int → Int → R D} (h : ∀ i j d, g i j = .ok d → ∃ k, d = .bl k) : ∀ cs c, fI2 g cs = .ok c → ∃ k, c = Cell.fz (.bl k) := fun cs c e => by
  unfold fI2 at e
  split at e
  · obtain ⟨d, e1, e⟩ := R.of_bind e
    cases e
    obtain ⟨k, rfl⟩ := h _ _ _ e1
    exact ⟨k, rfl⟩
  · cases e
theorem bl_cmp {p : Int → Int → Bool} : ∀ cs c, fCmp p cs = .ok c → ∃ k, c = Cell.fz (.bl k) := bl_I2 fun i j d e => by cases e; exact ⟨_, rfl⟩
theorem bl_eq : ∀ cs c, fEq cs = .ok c → ∃ k, c = Cell.fz (.bl k) := fun cs c e => by
  unfold fEq at e
  split at e
  · split at e
    · cases e; exact ⟨_, rfl⟩
    · cases e
  · cases e
theorem bl_ne : ∀ cs c, fNe cs = .ok c → ∃ k, c = Cell.fz (.bl k) := fun cs c e => by
  unfold fNe at e
  split at e
  · split at e
    · cases e; exact ⟨_, rfl⟩
    · cases e
  · cases e
theorem bl_in {neg : Bool} : ∀ cs c, fIn neg cs = .ok c → ∃ k, c = Cell.fz (.bl k) := fun cs c e => by
  unfold fIn at e
  split at e
  · obtain ⟨b, e1, e⟩ := R.of_bind e
    cases e
    exact ⟨_, rfl⟩
  · cases e
theorem bl_isN : ∀ cs c, fIsN cs = .ok c → ∃ k, c = Cell.fz (.bl k) := fun cs c e => by
  unfold fIsN at e
  split at e
  · cases e; exact ⟨_, rfl⟩
  · cases e
theorem bl_notN : ∀ cs c, fNotN cs = .ok c → ∃ k, c = Cell.fz (.bl k) := fun cs c e => by
  unfold fNotN at e
  split at e
  · cases e; exact ⟨_, rfl⟩
  · cases e
def mNotT (m : MT) : MT := fun ρ => do
  let (b, ρ1) ← m ρ
  R.ok (!b, ρ1)
theorem st_not {e : Expr} {m : MT} {pos : Pos} (h : ST X e m) : ST X (.UnaryOp .Not e pos) (mNotT m) := by
  obtain ⟨t, p, g⟩ := h.ex
  refine ⟨_, pt_not p, fun n σ H w ρ b ρ' Q ok hm k => ?_⟩
  obtain ⟨⟨c, ρ1⟩, e1, hm⟩ := R.of_bind hm
  cases hm
  exact g n σ H w ρ c _ _ ok e1 fun H1 w1 ok1 st1 => k H1 w1 ok1 st1
def mAndT (a b : MT) : MT := fun ρ => do
  let (c, ρ1) ← a ρ
  if c then b ρ1 else R.ok (false, ρ1)
def mOrT (a b : MT) : MT := fun ρ => do
  let (c, ρ1) ← a ρ
  if c then R.ok (true, ρ1) else b ρ1
theorem sw_and1 {a : Expr} {m : MT} {pos : Pos} (h : ST X a m) : SW X (.BoolOp .And [a] pos) m := by
  obtain ⟨t, p, g⟩ := h.ex
  exact ⟨t, pw_and1 p, g⟩
theorem sw_or1 {a : Expr} {m : MT} {pos : Pos} (h : ST X a m) : SW X (.BoolOp .Or [a] pos) m := by
  obtain ⟨t, p, g⟩ := h.ex
  exact ⟨t, pw_or1 p, g⟩
theorem sw_and {a b : Expr} {rest : List Expr} {m m2 : MT} {pos : Pos} (h : ST X a m) (h2 : SW X (.BoolOp .And (b :: rest) pos) m2) : SW X (.BoolOp .And (a :: b :: rest) pos) (mAndT m m2) := by
  obtain ⟨t, p, g⟩ := h.ex
  obtain ⟨t2, p2, g2⟩ := h2.ex
  refine ⟨_, pw_and p p2, fun n σ H w ρ b ρ' Q ok hm k => ?_⟩
  obtain ⟨⟨c, ρ1⟩, e1, hm⟩ := R.of_bind hm
  refine g n σ H w ρ c _ _ ok e1 fun H1 w1 ok1 st1 => ?_
  cases c with
  | true => exact iteT (g2 n σ H1 w1 ρ1 b ρ' Q ok1 hm fun H2 w2 ok2 st2 => k H2 w2 ok2 (st1.trans st2))
  | false =>
    cases hm
    exact iteF (k H1 w1 ok1 st1)
theorem sw_or {a b : Expr} {rest : List Expr} {m m2 : MT} {pos : Pos} (h : ST X a m) (h2 : SW X (.BoolOp .Or (b :: rest) pos) m2) : SW X (.BoolOp .Or (a :: b :: rest) pos) (mOrT m m2) := by
  obtain ⟨t, p, g⟩ := h.ex
  obtain ⟨t2, p2, g2⟩ := h2.ex
  refine ⟨_, pw_or p p2, fun n σ H w ρ b ρ' Q ok hm k => ?_⟩
  obtain ⟨⟨c, ρ1⟩, e1, hm⟩ := R.of_bind hm
  refine g n σ H w ρ c _ _ ok e1 fun H1 w1 ok1 st1 => ?_
  cases c with
  | false => exact iteF (g2 n σ H1 w1 ρ1 b ρ' Q ok1 hm fun H2 w2 ok2 st2 => k H2 w2 ok2 (st1.trans st2))
  | true =>
    cases hm
    exact iteT (k H1 w1 ok1 st1)
/-! ### and, or, not, if as values -/
def mNotV (a : AE) : AE := fun ρ => do
  let (b, ρ1) ← mTest a ρ
  R.ok (.v (Cell.fz (.bl (!b))), ρ1)
theorem sa_not {e : Expr} {m : AE} {pos : Pos} (h : SA X e m) : SA X (.UnaryOp .Not e pos) (mNotV m) := by
  obtain ⟨t, p, g⟩ := h.ex
  refine ⟨_, pe_notT p, fun n σ H w ρ s ρ' Q ok hm k => ?_⟩
  obtain ⟨⟨b, ρ1⟩, e1, hm⟩ := R.of_bind hm
  cases hm
  obtain ⟨s, c, e1, hc, hb⟩ := mTest_ok e1
  refine g n σ H w ρ s _ _ ok e1 fun v H1 w1 ok1 st1 sa => ?_
  obtain ⟨o, _, h1⟩ := sa.cell ok1 hc
  exact ⟨b, truth_ok h1 hb, k _ H1 w1 ok1 st1 (.fz (.bl _))⟩
/-- and, or of bools: the last one may be anything -/
def mAndV (a b : AE) : AE := fun ρ => do
  let (s, ρ1) ← a ρ
  match s.cell ρ1 with
  | some ⟨.bl c, _⟩ => if c then b ρ1 else R.ok (.v (Cell.fz (.bl false)), ρ1)
  | _ => R.bad
def mOrV (a b : AE) : AE := fun ρ => do
  let (s, ρ1) ← a ρ
  match s.cell ρ1 with
  | some ⟨.bl c, _⟩ => if c then R.ok (.v (Cell.fz (.bl true)), ρ1) else b ρ1
  | _ => R.bad
theorem sa_one {op : BoolOp} {a : Expr} {m : AE} {pos : Pos} (h : SA X a m) : SA X (.BoolOp op [a] pos) m := by
  obtain ⟨t, p, g⟩ := h.ex
  exact ⟨t, pe_one p, g⟩
theorem sa_and {a b : Expr} {rest : List Expr} {m m2 : AE} {pos : Pos} (h : SA X a m) (h2 : SA X (.BoolOp .And (b :: rest) pos) m2) : SA X (.BoolOp .And (a :: b :: rest) pos) (mAndV m m2) := by
  obtain ⟨t, p, g⟩ := h.ex
  obtain ⟨t2, p2, g2⟩ := h2.ex
  refine ⟨_, pe_and p p2, fun n σ H w ρ s ρ' Q ok hm k => ?_⟩
  obtain ⟨⟨s1, ρ1⟩, e1, hm⟩ := R.of_bind hm
  dsimp only at hm
  split at hm
  · rename_i c _ hc
    refine g n σ H w ρ s1 _ _ ok e1 fun v H1 w1 ok1 st1 sa => ?_
    obtain ⟨o, _, h1⟩ := sa.cell ok1 hc
    refine ⟨c, ow_bl h1, ?_⟩
    cases c with
    | true => exact iteT (g2 n σ H1 w1 ρ1 s ρ' Q ok1 hm fun v H2 w2 ok2 st2 => k v H2 w2 ok2 (st1.trans st2))
    | false =>
      cases hm
      exact iteF (k _ H1 w1 ok1 st1 (.fz (.bl _)))
  · cases hm
theorem sa_or {a b : Expr} {rest : List Expr} {m m2 : AE} {pos : Pos} (h : SA X a m) (h2 : SA X (.BoolOp .Or (b :: rest) pos) m2) : SA X (.BoolOp .Or (a :: b :: rest) pos) (mOrV m m2) := by
  obtain ⟨t, p, g⟩ := h.ex
  obtain ⟨t2, p2, g2⟩ := h2.ex
  refine ⟨_, pe_or p p2, fun n σ H w ρ s ρ' Q ok hm k => ?_⟩
  obtain ⟨⟨s1, ρ1⟩, e1, hm⟩ := R.of_bind hm
  dsimp only at hm
  split at hm
  · rename_i c _ hc
    refine g n σ H w ρ s1 _ _ ok e1 fun v H1 w1 ok1 st1 sa => ?_
    obtain ⟨o, _, h1⟩ := sa.cell ok1 hc
    refine ⟨c, ow_bl h1, ?_⟩
    cases c with
    | false => exact iteF (g2 n σ H1 w1 ρ1 s ρ' Q ok1 hm fun v H2 w2 ok2 st2 => k v H2 w2 ok2 (st1.trans st2))
    | true =>
      cases hm
      exact iteT (k _ H1 w1 ok1 st1 (.fz (.bl _)))
  · cases hm
def mIfE (t : MT) (a b : AE) : AE := fun ρ => do
  let (c, ρ1) ← t ρ
  if c then a ρ1 else b ρ1
theorem sa_if {c a b : Expr} {mc : MT} {ma mb : AE} {pos : Pos} (hc : ST X c mc) (ha : SA X a ma) (hb : SA X b mb) : SA X (.IfExp c a b pos) (mIfE mc ma mb) := by
  obtain ⟨t, p, g⟩ := hc.ex
  obtain ⟨ta, pa, ga⟩ := ha.ex
  obtain ⟨tb, pb, gb⟩ := hb.ex
  refine ⟨_, pe_ifExp p pa pb, fun n σ H w ρ s ρ' Q ok hm k => ?_⟩
  obtain ⟨⟨b, ρ1⟩, e1, hm⟩ := R.of_bind hm
  refine g n σ H w ρ b _ _ ok e1 fun H1 w1 ok1 st1 => ?_
  cases b with
  | true => exact iteT (ga n σ H1 w1 ρ1 s ρ' Q ok1 hm fun v H2 w2 ok2 st2 => k v H2 w2 ok2 (st1.trans st2))
  | false => exact iteF (gb n σ H1 w1 ρ1 s ρ' Q ok1 hm fun v H2 w2 ok2 st2 => k v H2 w2 ok2 (st1.trans st2))
/-- a op1 b op2 c -/
def mChain (f g : List Cell → R Cell) (a b c : AE) : AE := fun ρ => do
  let (s1, ρ1) ← a ρ
  let (s2, ρ2) ← b ρ1
  match s1.cell ρ2, s2.cell ρ2 with
  | some c1, some c2 => do
    let r ← f [c1, c2]
    match r with
    | ⟨.bl true, _⟩ => do
      let (s3, ρ3) ← c ρ2
      match s2.cell ρ3, s3.cell ρ3 with
      | some c2, some c3 => do
        let r ← g [c2, c3]
        R.ok (.v r, ρ3)
      | _, _ => R.bad
    | ⟨.bl false, _⟩ => R.ok (.v (Cell.fz (.bl false)), ρ2)
    | _ => R.bad
  | _, _ => R.bad
theorem chain_core {f f' : List Cell → R Cell} {r r' : R2} {a b c : Expr} {ma mb mc : AE} (hs : CallS X (r2L r) f) (hs' : CallS X (r2L r') f') (ha : SA X a ma) (hb : SA X b mb) (hc : SA X c mc) :
    ∃ ta tb tc, PE X a ta ∧ PE X b tb ∧ PE X c tc ∧ ∀ (n : Nat) (σ : L2.St) (H : Hp) (w : OM) (ρ : Env) (s : Src) (ρ' : Env) (Q : VK), Ok X.K H w σ ρ → mChain f f' ma mb mc ρ = .ok (s, ρ') →
      (∀ v H' w', Ok X.K H' w' σ ρ' → Step n H w H' w' → SrcAt X.K H' w' σ n s v → Q v H') → tChain r r' ta tb tc σ H Q := by
  obtain ⟨ta, pa, ga⟩ := ha.ex
  obtain ⟨tb, pb, gb⟩ := hb.ex
  obtain ⟨tc, pc, gc⟩ := hc.ex
  refine ⟨ta, tb, tc, pa, pb, pc, fun n σ H w ρ s ρ' Q ok hm k => ?_⟩
  obtain ⟨⟨s1, ρ1⟩, e1, hm⟩ := R.of_bind hm
  obtain ⟨⟨s2, ρ2⟩, e2, hm⟩ := R.of_bind hm
  dsimp only at hm e2
  split at hm
  · rename_i c1 c2 h1 h2
    obtain ⟨r0, e3, hm⟩ := R.of_bind hm
    refine ga n σ H w ρ s1 _ _ ok e1 fun v1 H1 w1 ok1 st1 a1 => ?_
    refine gb (n + 1) σ H1 w1 ρ1 s2 _ _ ok1 e2 fun v2 H2 w2 ok2 st2 a2 => ?_
    have st12 := st1.trans (st2.mono (Nat.le_succ n))
    refine hs (n + 2) H2 w2 σ ρ2 [c1, c2] [v1, v2] r0 _ ok2 (SrcsAt.cells (n := n) (ss := [s1, s2]) (vs := [v1, v2]) ok2 ⟨a1.step st2 (Nat.lt_succ_self n), a2, trivial⟩ (by show (match s1.cell ρ2, cells ρ2 [s2] with | some c, some cs => some (c :: cs) | _, _ => none) = _; rw [h1]; show (match some c1, (match s2.cell ρ2, cells ρ2 [] with | some c, some cs => some (c :: cs) | _, _ => none) with | some c, some cs => some (c :: cs) | _, _ => none) = _; rw [h2]; rfl)) e3 fun v3 H3 w3 ok3 st3 q3 => ?_
    split at hm
    · refine ⟨true, ow_bl q3, iteT ?_⟩
      obtain ⟨⟨s3, ρ3⟩, e4, hm⟩ := R.of_bind hm
      dsimp only at hm
      split at hm
      · rename_i c2' c3 h3 h4
        obtain ⟨r1, e5, hm⟩ := R.of_bind hm
        cases hm
        refine gc (n + 2) σ H3 w3 ρ2 s3 _ _ ok3 e4 fun v4 H4 w4 ok4 st4 a4 => ?_
        have a2' : SrcAt X.K H4 w4 σ (n + 1) s2 v2 := (a2.step st3 (by omega)).step st4 (by omega)
        refine hs' n H4 w4 σ _ [c2', c3] [v2, v4] r1 Q ok4 ?_ e5 fun v5 H5 w5 ok5 st5 q5 => ?_
        · exact SrcsAt.cells (n := n + 1) (ss := [s2, s3]) (vs := [v2, v4]) ok4 ⟨a2', a4, trivial⟩ (by show (match s2.cell _, cells _ [s3] with | some c, some cs => some (c :: cs) | _, _ => none) = _; rw [h3]; show (match some c2', (match s3.cell _, cells _ [] with | some c, some cs => some (c :: cs) | _, _ => none) with | some c, some cs => some (c :: cs) | _, _ => none) = _; rw [h4]; rfl)
        · exact k v5 H5 w5 ok5 (((st12.trans (st3.mono (by omega))).trans (st4.mono (by omega))).trans st5) q5
      · cases hm
    · cases hm
      exact ⟨false, ow_bl q3, iteF (k _ H3 w3 ok3 (st12.trans (st3.mono (by omega))) (.fz (.bl _)))⟩
    · cases hm
  · cases hm
theorem sa_chain {op op' : CmpOp} {f f' : List Cell → R Cell} {r r' : R2} {a b c : Expr} {ma mb mc : AE} {pos : Pos} (ho : OpR X (compareOp op) r) (ho' : OpR X (compareOp op') r') (hs : CallS X (r2L r) f) (hs' : CallS X (r2L r') f') (ha : SA X a ma) (hb : SA X b mb) (hc : SA X c mc)
    (hm : lastMarks [op, op'] [b, c] = false := by with_unfolding_all rfl) : SA X (.Compare a [op, op'] [b, c] pos) (mChain f f' ma mb mc) := by
  obtain ⟨ta, tb, tc, pa, pb, pc, g⟩ := chain_core hs hs' ha hb hc
  exact ⟨_, pe_chain ho ho' pa pb pc hm, g⟩
theorem st_chain {op op' : CmpOp} {f f' : List Cell → R Cell} {r r' : R2} {a b c : Expr} {ma mb mc : AE} {pos : Pos} (ho : OpR X (compareOp op) r) (ho' : OpR X (compareOp op') r') (hs : CallS X (r2L r) f) (hs' : CallS X (r2L r') f') (ha : SA X a ma) (hb : SA X b mb) (hc : SA X c mc)
    (hB : ∀ cs c, f' cs = .ok c → ∃ k, c = Cell.fz (.bl k)) (hm : lastMarks [op, op'] [b, c] = false := by with_unfolding_all rfl) : ST X (.Compare a [op, op'] [b, c] pos) (mTest (mChain f f' ma mb mc)) := by
  obtain ⟨ta, tb, tc, pa, pb, pc, g⟩ := chain_core hs hs' ha hb hc
  refine ⟨_, pt_chain ho ho' pa pb pc hm, fun n σ H w ρ bb ρ' Q ok hm k => ?_⟩
  obtain ⟨s, c0, e0, hc0, hb0⟩ := mTest_ok hm
  refine g n σ H w ρ s ρ' _ ok e0 fun v H1 w1 ok1 st1 sa => ?_
  have isB : ∃ k, s = .v (Cell.fz (.bl k)) := by
    obtain ⟨⟨s1, ρ1⟩, e1, e0⟩ := R.of_bind e0
    obtain ⟨⟨s2, ρ2⟩, e2, e0⟩ := R.of_bind e0
    dsimp only at e0
    split at e0
    · obtain ⟨r0, e3, e0⟩ := R.of_bind e0
      split at e0
      · obtain ⟨⟨s3, ρ3⟩, e4, e0⟩ := R.of_bind e0
        dsimp only at e0
        split at e0
        · obtain ⟨r1, e5, e0⟩ := R.of_bind e0
          cases e0
          obtain ⟨k, rfl⟩ := hB _ _ e5
          exact ⟨k, rfl⟩
        · cases e0
      · cases e0; exact ⟨false, rfl⟩
      · cases e0
    · cases e0
  obtain ⟨kk, rfl⟩ := isB
  cases hc0
  cases hb0
  have sa : Ow X.K H1 w1 (.tm n) 0 (.bl bb) v := sa
  exact ⟨_, ow_bl sa, k H1 w1 ok1 st1⟩
end
end Z

/-! Z: statements, loops. -/
namespace Z
open PySem PySem.Spec PyProof.Rows L2

inductive Fl where
  | next | brk | cont | ret (c : Cell)
/-- L: the slots that may not be bound anew -/
abbrev MS := List Nat → Env → R (Fl × Env)
def FlP (K : PySem.W.Frag) (D : Ends) (n : Nat) (H : Hp) (w : OM) (σ : L2.St) : Fl → Prop
  | .next => D.nx σ H
  | .brk => D.bk σ H
  | .cont => D.ct σ H
  | .ret c => ∀ v, Ow K H w (.tm n) c.k c.d v → D.rt v H
structure SS (X : Cx) (s : Stmt) (m : MS) : Prop where
  ex : ∃ t, PS X s t ∧ ∀ (n : Nat) (σ : L2.St) (H : Hp) (w : OM) (ρ : Env) (L : List Nat) (fl : Fl) (ρ' : Env) (D : Ends), Ok X.K H w σ ρ → m L ρ = .ok (fl, ρ') →
    (∀ σ' H' w', Ok X.K H' w' σ' ρ' → Step n H w H' w' → (∀ i ∈ L, σ'[i]? = σ[i]?) → FlP X.K D n H' w' σ' fl) → t D σ H
structure SSs (X : Cx) (s : List Stmt) (m : MS) : Prop where
  ex : ∃ t, PSs X s t ∧ ∀ (n : Nat) (σ : L2.St) (H : Hp) (w : OM) (ρ : Env) (L : List Nat) (fl : Fl) (ρ' : Env) (D : Ends), Ok X.K H w σ ρ → m L ρ = .ok (fl, ρ') →
    (∀ σ' H' w', Ok X.K H' w' σ' ρ' → Step n H w H' w' → (∀ i ∈ L, σ'[i]? = σ[i]?) → FlP X.K D n H' w' σ' fl) → t D σ H

/-! ### a value is taken -/
def take (L : List Nat) : Src → Env → R (Cell × Env)
  | .v c, ρ => .ok (c, ρ)
  | .s i, ρ => match ρ.get i with
    | some ⟨d, 0⟩ => .ok (Cell.fz d, ρ)
    | some ⟨d, k + 1⟩ => if L.contains i then .ok (Cell.fz d, ρ.set i (some ⟨d, 0⟩)) else .ok (⟨d, k + 1⟩, ρ.set i none)
    | none => .bad
section
variable {K : PySem.W.Frag} {H : Hp} {w : OM} {σ : L2.St} {ρ ρ' : Env} {n : Nat}
theorem Ok.drop {i : Nat} (ok : Ok K H w σ ρ) : Ok K H w σ (ρ.set i none) := by
  refine ⟨by rw [Env.length_set]; exact ok.len, fun j x q => ?_, ok.live⟩
  rcases Env.get_set q with ⟨_, z⟩ | ⟨_, z⟩
  · cases z
  · exact ok.slot j x z
theorem take_ok {L : List Nat} {s : Src} {v : V} {c : Cell} (ok : Ok K H w σ ρ) (h : SrcAt K H w σ n s v) (e : take L s ρ = .ok (c, ρ')) :
    ∃ w', Ok K H w' σ ρ' ∧ (∀ m, Step m H w H w') ∧ Ow K H w' (.tm n) c.k c.d v := by
  cases s with
  | v c' =>
    cases e
    exact ⟨w, ok, fun _ => Step.refl, h⟩
  | s i =>
    unfold take at e
    dsimp only at e
    have h : σ[i]? = some (some v) := h
    split at e
    · rename_i d hc
      cases e
      obtain ⟨u, e1, q⟩ := ok.slot i _ hc
      rw [h] at e1
      cases e1
      refine ⟨w, ok, fun _ => Step.refl, ?_⟩
      cases q with
      | fz q => exact .fz q
    · rename_i d k hc
      obtain ⟨u, e1, q⟩ := ok.slot i _ hc
      rw [h] at e1
      cases e1
      split at e
      · cases e
        exact ⟨w.re (.sl i) .no, ok.freeze hc, fun m => Step.re not_fixed_sl, .fz (q.freeze (by intro z; cases z))⟩
      · cases e
        refine ⟨w.re (.sl i) (.tm n), ?_, fun m => Step.re not_fixed_sl, q.re (by intro z; cases z)⟩
        refine ⟨by rw [Env.length_set]; exact ok.len, fun j x q => ?_, fun a h => ?_⟩
        · rcases Env.get_set q with ⟨_, z⟩ | ⟨hj, z⟩
          · cases z
          · obtain ⟨v, e1, h⟩ := ok.slot j x z
            exact ⟨v, e1, h.other (by intro z; cases z) (by intro z; cases z; exact hj rfl)⟩
        · by_cases z : w a = .sl i
          · exact ok.live a (by rw [z]; intro q; cases q)
          · rw [OM.re_ne z] at h; exact ok.live a h
    · cases e
/-- a value is bound to a slot -/
theorem Ok.store {i : Nat} {c : Cell} {v : V} (ok : Ok K H w σ ρ) (h : Ow K H w (.tm n) c.k c.d v) : Ok K H (w.re (.tm n) (.sl i)) (σ.set i (some v)) (ρ.set i (some c)) := by
  refine ⟨by rw [Env.length_set, List.length_set]; exact ok.len, fun j x q => ?_, fun a h => ?_⟩
  · rcases Env.get_set q with ⟨ej, z⟩ | ⟨hj, z⟩
    · subst ej
      cases z
      have hl : j < σ.length := by
        have := Env.get_lt q
        rw [Env.length_set] at this
        rw [ok.len]; exact this
      exact ⟨v, List.getElem?_set_self hl, h.re (by intro z; cases z)⟩
    · obtain ⟨u, e1, q⟩ := ok.slot j x z
      exact ⟨u, by rw [List.getElem?_set_ne (Ne.symm hj)]; exact e1, q.other (by intro z; cases z) (by intro z; cases z)⟩
  · by_cases z : w a = .tm n
    · exact ok.live a (by rw [z]; intro q; cases q)
    · rw [OM.re_ne z] at h; exact ok.live a h
theorem Ok.storeFz {i : Nat} {d : D} {v : V} (ok : Ok K H w σ ρ) (h : Fz K H w d v) : Ok K H w (σ.set i (some v)) (ρ.set i (some (Cell.fz d))) := by
  refine ⟨by rw [Env.length_set, List.length_set]; exact ok.len, fun j x q => ?_, ok.live⟩
  rcases Env.get_set q with ⟨ej, z⟩ | ⟨hj, z⟩
  · subst ej
    cases z
    have hl : j < σ.length := by
      have := Env.get_lt q
      rw [Env.length_set] at this
      rw [ok.len]; exact this
    exact ⟨v, List.getElem?_set_self hl, .fz h⟩
  · obtain ⟨u, e1, q⟩ := ok.slot j x z
    exact ⟨u, by rw [List.getElem?_set_ne (Ne.symm hj)]; exact e1, q⟩
theorem set_keep {σ : L2.St} {L : List Nat} {i : Nat} {x : Option V} (h : L.contains i = false) : ∀ j ∈ L, (σ.set i x)[j]? = σ[j]? := fun j hj => by
  refine List.getElem?_set_ne ?_
  intro e
  subst e
  have : L.contains i = true := by simpa using hj
  rw [h] at this
  cases this
end

section
variable {X : Cx} {pos : Pos}
/-! ### small statements -/
def mNext : MS := fun _ ρ => .ok (.next, ρ)
theorem ss_pass : SS X (.Pass pos) mNext := ⟨_, ps_pass, fun n σ H w ρ L fl ρ' D ok hm k => by
  cases hm
  exact k σ H w ok Step.refl fun _ _ => rfl⟩
theorem ss_doc {x : Str} {j : Nat} {pos' : Pos} : SS X (.Expr (.Constant (.str x) j pos) pos') mNext := ⟨_, ps_doc, fun n σ H w ρ L fl ρ' D ok hm k => by
  cases hm
  exact k σ H w ok Step.refl fun _ _ => rfl⟩
def mBrk : MS := fun _ ρ => .ok (.brk, ρ)
def mCont : MS := fun _ ρ => .ok (.cont, ρ)
theorem ss_break : SS X (.Break pos) mBrk := ⟨_, ps_break, fun n σ H w ρ L fl ρ' D ok hm k => by
  cases hm
  exact k σ H w ok Step.refl fun _ _ => rfl⟩
theorem ss_continue : SS X (.Continue pos) mCont := ⟨_, ps_continue, fun n σ H w ρ L fl ρ' D ok hm k => by
  cases hm
  exact k σ H w ok Step.refl fun _ _ => rfl⟩
theorem sss_nil : SSs X [] mNext := ⟨_, pss_nil, fun n σ H w ρ L fl ρ' D ok hm k => by
  cases hm
  exact k σ H w ok Step.refl fun _ _ => rfl⟩
def mSeq (a b : MS) : MS := fun L ρ => do
  let (fl, ρ1) ← a L ρ
  match fl with
  | .next => b L ρ1
  | f => R.ok (f, ρ1)
theorem sss_cons {s : Stmt} {rest : List Stmt} {a b : MS} (ha : SS X s a) (hb : SSs X rest b) : SSs X (s :: rest) (mSeq a b) := by
  obtain ⟨t, p, g⟩ := ha.ex
  obtain ⟨u, q, g2⟩ := hb.ex
  refine ⟨_, pss_cons p q, fun n σ H w ρ L fl ρ' D ok hm k => ?_⟩
  obtain ⟨⟨f, ρ1⟩, e1, hm⟩ := R.of_bind hm
  refine g n σ H w ρ L f ρ1 _ ok e1 fun σ1 H1 w1 ok1 st1 l1 => ?_
  cases f with
  | next =>
    refine g2 n σ1 H1 w1 ρ1 L fl ρ' D ok1 hm fun σ2 H2 w2 ok2 st2 l2 => ?_
    exact k σ2 H2 w2 ok2 (st1.trans st2) fun i hi => (l2 i hi).trans (l1 i hi)
  | brk => cases hm; exact k σ1 H1 w1 ok1 st1 l1
  | cont => cases hm; exact k σ1 H1 w1 ok1 st1 l1
  | ret c => cases hm; exact k σ1 H1 w1 ok1 st1 l1
def mExpr (m : AE) : MS := fun _ ρ => do
  let (_, ρ1) ← m ρ
  R.ok (.next, ρ1)
theorem ss_expr {e : Expr} {m : AE} (h : SA X e m) (hs : swapsWith e none pos.line X.env = pure false := by rfl) : SS X (.Expr e pos) (mExpr m) := by
  obtain ⟨t, p, g⟩ := h.ex
  refine ⟨_, ps_expr p hs, fun n σ H w ρ L fl ρ' D ok hm k => ?_⟩
  obtain ⟨⟨s, ρ1⟩, e1, hm⟩ := R.of_bind hm
  cases hm
  exact g n σ H w ρ s _ _ ok e1 fun v H1 w1 ok1 st1 _ => k σ H1 w1 ok1 st1 fun _ _ => rfl
def mRet (m : AE) : MS := fun L ρ => do
  let (s, ρ1) ← m ρ
  let (c, ρ2) ← take L s ρ1
  R.ok (.ret c, ρ2)
theorem ss_ret {e : Expr} {m : AE} (h : SA X e m) : SS X (.Return (some e) pos) (mRet m) := by
  obtain ⟨t, p, g⟩ := h.ex
  refine ⟨_, ps_ret p, fun n σ H w ρ L fl ρ' D ok hm k => ?_⟩
  obtain ⟨⟨s, ρ1⟩, e1, hm⟩ := R.of_bind hm
  obtain ⟨⟨c, ρ2⟩, e2, hm⟩ := R.of_bind hm
  cases hm
  refine g n σ H w ρ s _ _ ok e1 fun v H1 w1 ok1 st1 sa => ?_
  obtain ⟨w2, ok2, st2, ow⟩ := take_ok ok1 sa e2
  exact k σ H1 w2 ok2 (st1.trans (st2 n)) (fun _ _ => rfl) v ow
def mRetN : MS := fun _ ρ => .ok (.ret (Cell.fz .non), ρ)
theorem ss_retN : SS X (.Return none pos) mRetN := ⟨_, ps_retN, fun n σ H w ρ L fl ρ' D ok hm k => by
  cases hm
  exact k σ H w ok Step.refl (fun _ _ => rfl) .non (.fz .non)⟩
def mSet (i : Nat) (m : AE) : MS := fun L ρ => do
  let (s, ρ1) ← m ρ
  let (c, ρ2) ← take L s ρ1
  if L.contains i then R.bad else R.ok (.next, ρ2.set i (some c))
theorem mSet_core {i : Nat} {m : AE} {t : TE} (g : ∀ (n : Nat) (σ : L2.St) (H : Hp) (w : OM) (ρ : Env) (s : Src) (ρ' : Env) (Q : VK), Ok X.K H w σ ρ → m ρ = .ok (s, ρ') →
    (∀ v H' w', Ok X.K H' w' σ ρ' → Step n H w H' w' → SrcAt X.K H' w' σ n s v → Q v H') → t σ H Q) :
    ∀ (n : Nat) (σ : L2.St) (H : Hp) (w : OM) (ρ : Env) (L : List Nat) (fl : Fl) (ρ' : Env) (D : Ends), Ok X.K H w σ ρ → mSet i m L ρ = .ok (fl, ρ') →
    (∀ σ' H' w', Ok X.K H' w' σ' ρ' → Step n H w H' w' → (∀ i ∈ L, σ'[i]? = σ[i]?) → FlP X.K D n H' w' σ' fl) → tAsg t (gName i) D σ H := by
  intro n σ H w ρ L fl ρ' D ok hm k
  obtain ⟨⟨s, ρ1⟩, e1, hm⟩ := R.of_bind hm
  obtain ⟨⟨c, ρ2⟩, e2, hm⟩ := R.of_bind hm
  dsimp only at hm
  split at hm
  · cases hm
  · rename_i hL
    cases hm
    refine g n σ H w ρ s _ _ ok e1 fun v H1 w1 ok1 st1 sa => ?_
    obtain ⟨w2, ok2, st2, ow⟩ := take_ok ok1 sa e2
    exact k _ H1 _ (ok2.store (i := i) ow) ((st1.trans (st2 n)).trans (Step.re not_fixed_tm)) (set_keep (by simpa using hL))
theorem ss_set {i : Nat} {x : Str} {e : Expr} {m : AE} {pos' : Pos} (h : SA X e m) (hN : X.N.Nodup) (hi : X.N[i]? = some x := by rfl) (hx : Loc X.env.scope x := by first | exact Or.inl rfl | exact Or.inr rfl)
    (hs : swapsWith e (some (.Name x pos')) pos.line X.env = pure false := by rfl) (hf : X.fn x = true ∨ X.env.scope.names.lookup x = some .local := by first | exact .inl rfl | exact .inr rfl) : SS X (.Assign [.Name x pos'] e pos) (mSet i m) := by
  obtain ⟨t, p, g⟩ := h.ex
  exact ⟨_, ps_set hN hi hx p hs hf, mSet_core g⟩
def mIf (t : MT) (a b : MS) : MS := fun L ρ => do
  let (c, ρ1) ← t ρ
  if c then a L ρ1 else b L ρ1
theorem ss_if {c : Expr} {a b : List Stmt} {mc : MT} {ma mb : MS} (hc : ST X c mc) (ha : SSs X a ma) (hb : SSs X b mb) : SS X (.If c a b pos) (mIf mc ma mb) := by
  obtain ⟨t, p, g⟩ := hc.ex
  obtain ⟨ta, pa, ga⟩ := ha.ex
  obtain ⟨tb, pb, gb⟩ := hb.ex
  refine ⟨_, ps_if p pa pb, fun n σ H w ρ L fl ρ' D ok hm k => ?_⟩
  obtain ⟨⟨b, ρ1⟩, e1, hm⟩ := R.of_bind hm
  refine g n σ H w ρ b _ _ ok e1 fun H1 w1 ok1 st1 => ?_
  cases b with
  | true => exact iteT (ga n σ H1 w1 ρ1 L fl ρ' D ok1 hm fun σ2 H2 w2 ok2 st2 l2 => k σ2 H2 w2 ok2 (st1.trans st2) l2)
  | false => exact iteF (gb n σ H1 w1 ρ1 L fl ρ' D ok1 hm fun σ2 H2 w2 ok2 st2 l2 => k σ2 H2 w2 ok2 (st1.trans st2) l2)

/-! ### targets -/
abbrev MG := D → List Nat → Env → R Env
structure SG (X : Cx) (tg : Expr) (sl : List Nat) (m : MG) : Prop where
  ex : ∃ g, PG X tg g ∧ ∀ (σ : L2.St) (H : Hp) (w : OM) (ρ : Env) (L : List Nat) (d : D) (v : V) (ρ' : Env) (Q : L2.St → Hp → Prop), Ok X.K H w σ ρ → Fz X.K H w d v → m d L ρ = .ok ρ' →
    (∀ σ', Ok X.K H w σ' ρ' → σ'.length = σ.length → (∀ i, i ∉ sl → σ'[i]? = σ[i]?) → (∀ i ∈ L, σ'[i]? = σ[i]?) → Q σ' H) → g v σ H Q
structure SGs (X : Cx) (tgs : List Expr) (sl : List Nat) (m : List D → List Nat → Env → R Env) : Prop where
  ex : ∃ g, PGs X tgs g ∧ ∀ (σ : L2.St) (H : Hp) (w : OM) (ρ : Env) (L : List Nat) (ds : List D) (vs : List V) (ρ' : Env) (Q : L2.St → Hp → Prop), Ok X.K H w σ ρ → FzL X.K H w ds vs → m ds L ρ = .ok ρ' →
    (∀ σ', Ok X.K H w σ' ρ' → σ'.length = σ.length → (∀ i, i ∉ sl → σ'[i]? = σ[i]?) → (∀ i ∈ L, σ'[i]? = σ[i]?) → Q σ' H) → g vs σ H Q
def gN (i : Nat) : MG := fun d L ρ => if L.contains i then .bad else .ok (ρ.set i (some (Cell.fz d)))
theorem sg_name {i : Nat} {x : Str} (hN : X.N.Nodup) (hi : X.N[i]? = some x := by rfl) (hx : Loc X.env.scope x := by first | exact Or.inl rfl | exact Or.inr rfl)
    (hf : X.fn x = true ∨ X.env.scope.names.lookup x = some .local := by first | exact .inl rfl | exact .inr rfl) : SG X (.Name x pos) [i] (gN i) := by
  refine ⟨_, pg_name hN hi hx hf, fun σ H w ρ L d v ρ' Q ok h hm k => ?_⟩
  unfold gN at hm
  split at hm
  · cases hm
  · rename_i hL
    cases hm
    exact k _ (ok.storeFz h) List.length_set (fun j hj => List.getElem?_set_ne (by intro e; exact hj (by simp [e]))) (set_keep (by simpa using hL))
def gsNil : List D → List Nat → Env → R Env := fun ds _ ρ => match ds with
  | [] => .ok ρ
  | _ => .bad
def gsCons (g : MG) (gs : List D → List Nat → Env → R Env) : List D → List Nat → Env → R Env := fun ds L ρ => match ds with
  | d :: r => do
    let ρ1 ← g d L ρ
    gs r L ρ1
  | [] => .bad
theorem sgs_nil : SGs X [] [] gsNil := ⟨_, pgs_nil, fun σ H w ρ L ds vs ρ' Q ok h hm k => by
  cases h with
  | nil => cases hm; exact ⟨rfl, k σ ok rfl (fun _ _ => rfl) fun _ _ => rfl⟩
  | cons _ _ => cases hm⟩
theorem sgs_cons {e : Expr} {es : List Expr} {s1 s2 : List Nat} {g : MG} {gs : List D → List Nat → Env → R Env} (h1 : SG X e s1 g) (h2 : SGs X es s2 gs)
    (hs : (assignEach (e :: es) X.env).map (·.2) = assign e X.env :: (assignEach es X.env).map (·.2) := by rfl) : SGs X (e :: es) (s1 ++ s2) (gsCons g gs) := by
  obtain ⟨t, p, f⟩ := h1.ex
  obtain ⟨u, q, f2⟩ := h2.ex
  refine ⟨_, pgs_cons p q hs, fun σ H w ρ L ds vs ρ' Q ok h hm k => ?_⟩
  cases h with
  | nil => cases hm
  | cons h t =>
    obtain ⟨ρ1, e1, hm⟩ := R.of_bind hm
    refine ⟨_, _, rfl, f σ H w ρ L _ _ _ _ ok h e1 fun σ1 ok1 n1 a1 l1 => ?_⟩
    refine f2 σ1 H w ρ1 L _ _ ρ' _ ok1 t hm fun σ2 ok2 n2 a2 l2 => ?_
    exact k σ2 ok2 (n2.trans n1) (fun i hi => (a2 i fun z => hi (List.mem_append_right _ z)).trans (a1 i fun z => hi (List.mem_append_left _ z))) fun i hi => (l2 i hi).trans (l1 i hi)
def gT (n : Nat) (gs : List D → List Nat → Env → R Env) : MG := fun d L ρ => match d with
  | .tup ds => if ds.length = n then gs ds L ρ else .bad
  | _ => .bad
theorem sg_tup {es : List Expr} {k n : Nat} {sl : List Nat} {gs : List D → List Nat → Env → R Env} (hc : X.calm = true) (h : SGs X es sl gs) (hn : (assignEach es X.env).length = n := by rfl) (hst : (assignEach es X.env).findIdx? (·.1) = none := by rfl) :
    SG X (.Tuple es k pos) sl (gT n gs) := by
  obtain ⟨t, p, f⟩ := h.ex
  refine ⟨_, pg_tup hc p hn hst, fun σ H w ρ L d v ρ' Q ok h hm k => ?_⟩
  unfold gT at hm
  split at hm
  · split at hm
    · rename_i hl
      cases h with
      | tup ta fa => exact ⟨_, _, rfl, ta.sq, by rw [← fa.length]; exact hl, f σ H w ρ L _ _ ρ' Q ok fa hm k⟩
    · cases hm
  · cases hm
/-- target = value, the value frozen -/
def mAsg (g : MG) (m : AE) : MS := fun L ρ => do
  let (s, ρ1) ← m ρ
  let (c, ρ2) ← esc s ρ1
  let ρ3 ← g c.d L ρ2
  R.ok (.next, ρ3)
theorem ss_asg {tg e : Expr} {sl : List Nat} {g : MG} {m : AE} (he : SA X e m) (hg : SG X tg sl g) (hs : swapsWithSole [tg] e pos.line X.env = pure false := by rfl) (hw : swappedStores [tg] e X.env = pure none := by rfl)
    (h1 : (assignEach [tg] X.env).map (·.2) = [assign tg X.env] := by rfl) : SS X (.Assign [tg] e pos) (mAsg g m) := by
  obtain ⟨t, p, f⟩ := he.ex
  obtain ⟨u, q, f2⟩ := hg.ex
  refine ⟨_, ps_asg p q hs hw h1, fun n σ H w ρ L fl ρ' D ok hm k => ?_⟩
  obtain ⟨⟨s, ρ1⟩, e1, hm⟩ := R.of_bind hm
  obtain ⟨⟨c, ρ2⟩, e2, hm⟩ := R.of_bind hm
  obtain ⟨ρ3, e3, hm⟩ := R.of_bind hm
  cases hm
  refine f n σ H w ρ s _ _ ok e1 fun v H1 w1 ok1 st1 sa => ?_
  obtain ⟨w2, ok2, st2, ow, _⟩ := esc_ok ok1 sa e2
  have ok3 : Ok X.K H1 (w2.re (.tm n) .no) σ ρ2 := ok2.re (by intro z; cases z) (by intro i z; cases z)
  refine f2 σ H1 _ ρ2 L c.d v _ _ ok3 (ow.freeze (by intro z; cases z)) e3 fun σ' ok' _ _ l' => ?_
  exact k σ' H1 _ ok' ((st1.trans (st2 n)).trans (Step.re not_fixed_tm)) l'

/-! ### loops -/
structure ItD where
  items : List D
  chk : Option Nat
def chkOk (it : ItD) (ρ : Env) : Bool := match it.chk with
  | none => true
  | some i => match ρ.get i with
    | some c => decide (c.k ≤ 1) && decide (c.d = .lst it.items)
    | none => false
abbrev MI := Env → R (ItD × Env)
/-- what an iterator does, as long as its list stands -/
def ItOk (K : PySem.W.Frag) (J : It) (n : Nat) (it : ItD) (σ : L2.St) (H : Hp) (w : OM) : Prop :=
  ∀ (H2 : Hp) (w2 : OM) (σ2 : L2.St) (ρ2 : Env) (j : Nat), Ok K H2 w2 σ2 ρ2 → Step n H w H2 w2 → (∀ i, it.chk = some i → σ2[i]? = σ[i]?) → chkOk it ρ2 = true →
    (∀ d, it.items[j]? = some d → J.go j H2 ∧ ∀ x H3, J.yld j H2 x H3 → ∃ w3, (∀ (σ3 : L2.St) (ρ3 : Env), Ok K H2 w2 σ3 ρ3 → Ok K H3 w3 σ3 ρ3) ∧ (∀ m, Step m H2 w2 H3 w3) ∧ Fz K H3 w3 d x) ∧ (it.items.length ≤ j → J.stop j H2)
structure SI (X : Cx) (tg iter : Expr) (m : MI) : Prop where
  ex : ∃ wi, PI X tg iter wi ∧ ∀ (n : Nat) (σ : L2.St) (H : Hp) (w : OM) (ρ : Env) (it : ItD) (ρ' : Env) (Q : It → Hp → Prop), Ok X.K H w σ ρ → m ρ = .ok (it, ρ') →
    (∀ J H' w', Ok X.K H' w' σ ρ' → Step n H w H' w' → chkOk it ρ' = true → ItOk X.K J 0 it σ H' w' → Q J H') → wi σ H Q
def loopF (it : ItD) (g : MG) (body : MS) (L : List Nat) : List D → Env → R (Fl × Env)
  | [], ρ => .ok (.next, ρ)
  | d :: r, ρ => do
    let ρ1 ← g d L ρ
    let (fl, ρ2) ← body L ρ1
    match fl with
    | .ret c => R.ok (.ret c, ρ2)
    | .brk => R.ok (.next, ρ2)
    | _ => if chkOk it ρ2 then loopF it g body L r ρ2 else R.bad
def mFor (mi : MI) (g : MG) (body : MS) : MS := fun L ρ => do
  let (it, ρ1) ← mi ρ
  loopF it g body (match it.chk with | some i => i :: L | none => L) it.items ρ1
theorem ss_for {tg iter : Expr} {body : List Stmt} {mi : MI} {g : MG} {mb : MS} {sl : List Nat} (hp : PassesOwn (model X.prog X.w) X.A X.env X.xe) (hc : X.calm = true) (hi : SI X tg iter mi) (hg : SG X tg sl g) (hb : SSs X body mb)
    (hs : ∀ x, foldedSetIterable iter X.env x = pure x := by intro _; rfl) : SS X (.For tg iter body [] pos) (mFor mi g mb) := by
  obtain ⟨wi, p, f⟩ := hi.ex
  obtain ⟨tg', q, f2⟩ := hg.ex
  obtain ⟨tb, r, f3⟩ := hb.ex
  refine ⟨_, ps_for hp hc p q r hs, fun n σ H w ρ L fl ρ' D ok hm k => ?_⟩
  obtain ⟨⟨it, ρ1⟩, e1, hm⟩ := R.of_bind hm
  dsimp only at hm e1
  generalize hL : (match it.chk with | some i => i :: L | none => L) = L' at hm
  have hsub : ∀ i ∈ L, i ∈ L' := fun i hi => by
    subst hL
    cases it.chk with
    | none => exact hi
    | some j => exact List.mem_cons_of_mem _ hi
  have hchk : ∀ i, it.chk = some i → i ∈ L' := fun i hi => by
    subst hL
    rw [hi]
    exact List.mem_cons_self ..
  refine f n σ H w ρ it ρ1 _ ok e1 fun J H1 w1 ok1 st1 c1 io => ?_
  refine ⟨fun i m σ2 H2 => m = it.items.length - i ∧ i ≤ it.items.length ∧ ∃ w2 ρ2, Ok X.K H2 w2 σ2 ρ2 ∧ Step n H1 w1 H2 w2 ∧ (∀ j ∈ L', σ2[j]? = σ[j]?) ∧ chkOk it ρ2 = true ∧ loopF it g mb L' (it.items.drop i) ρ2 = .ok (fl, ρ'),
    ⟨_, rfl, Nat.zero_le _, w1, ρ1, ok1, Step.refl, fun _ _ => rfl, c1, hm⟩, ?_⟩
  rintro i m σ2 H2 ⟨rfl, hle, w2, ρ2, ok2, st2, l2, c2, e2⟩
  obtain ⟨go, stop⟩ := io H2 w2 σ2 ρ2 i ok2 (st2.mono (Nat.zero_le n)) (fun j hj => l2 j (hchk j hj)) c2
  by_cases hlt : i < it.items.length
  · obtain ⟨hgo, hy⟩ := go _ (List.getElem?_eq_getElem hlt)
    refine .inr ⟨hgo, fun σ4 H4 => ∃ w4 ρ4, Ok X.K H4 w4 σ4 ρ4 ∧ Step n H1 w1 H4 w4 ∧ (∀ j ∈ L', σ4[j]? = σ[j]?) ∧ chkOk it ρ4 = true ∧ loopF it g mb L' (it.items.drop (i + 1)) ρ4 = .ok (fl, ρ'), ?_, ?_⟩
    · rintro σ4 H4 h4
      exact ⟨it.items.length - (i + 1), by omega, rfl, hlt, h4⟩
    · intro x H3 y
      obtain ⟨w3, ok3f, st3f, fz⟩ := hy x H3 y
      have ok3 := ok3f σ2 ρ2 ok2
      have st3 := st2.trans (st3f n)
      rw [List.drop_eq_getElem_cons hlt] at e2
      obtain ⟨ρ3, e3, e2⟩ := R.of_bind e2
      obtain ⟨⟨fb, ρ4⟩, e4, e2⟩ := R.of_bind e2
      refine f2 σ2 H3 w3 ρ2 L' _ x ρ3 _ ok3 fz e3 fun σ3 ok3' _ _ l3 => ?_
      refine f3 n σ3 H3 w3 ρ3 L' fb ρ4 _ ok3' e4 fun σ4 H4 w4 ok4 st4 l4 => ?_
      have ll : ∀ j ∈ L', σ4[j]? = σ[j]? := fun j hj => (l4 j hj).trans ((l3 j hj).trans (l2 j hj))
      have st14 := st3.trans st4
      have again : (if chkOk it ρ4 = true then loopF it g mb L' (it.items.drop (i + 1)) ρ4 else R.bad) = .ok (fl, ρ') →
          ∃ w4 ρ4, Ok X.K H4 w4 σ4 ρ4 ∧ Step n H1 w1 H4 w4 ∧ (∀ j ∈ L', σ4[j]? = σ[j]?) ∧ chkOk it ρ4 = true ∧ loopF it g mb L' (it.items.drop (i + 1)) ρ4 = .ok (fl, ρ') := fun z => by
        split at z
        · exact ⟨w4, ρ4, ok4, st14, ll, by assumption, z⟩
        · cases z
      cases fb with
      | next => exact again e2
      | cont => exact again e2
      | brk =>
        cases e2
        exact k σ4 H4 w4 ok4 (st1.trans st14) fun j hj => ll j (hsub j hj)
      | ret c =>
        cases e2
        exact k σ4 H4 w4 ok4 (st1.trans st14) fun j hj => ll j (hsub j hj)
  · have e : i = it.items.length := by omega
    subst e
    rw [List.drop_length] at e2
    cases e2
    exact .inl ⟨stop (Nat.le_refl _), k σ2 H2 w2 ok2 (st1.trans st2) fun j hj => l2 j (hsub j hj)⟩
def loopW (t : MT) (body : MS) (L : List Nat) : Nat → Env → R (Fl × Env)
  | 0, _ => .bad
  | m + 1, ρ => do
    let (b, ρ1) ← t ρ
    if b then do
      let (fl, ρ2) ← body L ρ1
      match fl with
      | .ret c => R.ok (.ret c, ρ2)
      | .brk => R.ok (.next, ρ2)
      | _ => loopW t body L m ρ2
    else R.ok (.next, ρ1)
def mWhile (fuel : Nat) (t : MT) (body : MS) : MS := fun L ρ => loopW t body L fuel ρ
theorem ss_while {c : Expr} {body : List Stmt} {mc : MT} {mb : MS} (fuel : Nat) (hp : PassesOwn (model X.prog X.w) X.A X.env X.xe) (hc : ST X c mc) (hb : SSs X body mb) : SS X (.While c body [] pos) (mWhile fuel mc mb) := by
  obtain ⟨tc, p, f⟩ := hc.ex
  obtain ⟨tb, r, f3⟩ := hb.ex
  refine ⟨_, ps_while hp p r, fun n σ H w ρ L fl ρ' D ok hm k => ?_⟩
  refine ⟨fun m σ2 H2 => ∃ w2 ρ2, Ok X.K H2 w2 σ2 ρ2 ∧ Step n H w H2 w2 ∧ (∀ j ∈ L, σ2[j]? = σ[j]?) ∧ loopW mc mb L m ρ2 = .ok (fl, ρ'), ⟨fuel, w, ρ, ok, Step.refl, fun _ _ => rfl, hm⟩, ?_⟩
  rintro m σ2 H2 ⟨w2, ρ2, ok2, st2, l2, e2⟩
  cases m with
  | zero => cases e2
  | succ m =>
    obtain ⟨⟨b, ρ3⟩, e3, e2⟩ := R.of_bind e2
    refine f n σ2 H2 w2 ρ2 b ρ3 _ ok2 e3 fun H3 w3 ok3 st3 => ?_
    cases b with
    | false =>
      cases e2
      exact iteF (k σ2 H3 w3 ok3 (st2.trans st3) l2)
    | true =>
      obtain ⟨⟨fb, ρ4⟩, e4, e2⟩ := R.of_bind (show (mb L ρ3 >>= _) = _ from e2)
      refine iteT ⟨fun σ4 H4 => ∃ w4 ρ4, Ok X.K H4 w4 σ4 ρ4 ∧ Step n H w H4 w4 ∧ (∀ j ∈ L, σ4[j]? = σ[j]?) ∧ loopW mc mb L m ρ4 = .ok (fl, ρ'), fun σ4 H4 h4 => ⟨m, Nat.lt_succ_self m, h4⟩, ?_⟩
      refine f3 n σ2 H3 w3 ρ3 L fb ρ4 _ ok3 e4 fun σ4 H4 w4 ok4 st4 l4 => ?_
      have ll : ∀ j ∈ L, σ4[j]? = σ[j]? := fun j hj => (l4 j hj).trans (l2 j hj)
      have st14 := (st2.trans st3).trans st4
      cases fb with
      | next => exact ⟨w4, ρ4, ok4, st14, ll, e2⟩
      | cont => exact ⟨w4, ρ4, ok4, st14, ll, e2⟩
      | brk =>
        cases e2
        exact k σ4 H4 w4 ok4 st14 ll
      | ret c =>
        cases e2
        exact k σ4 H4 w4 ok4 st14 ll
end
end Z

/-! Z: what is walked, comprehensions, calls of defs, methods. -/
namespace Z
open PySem PySem.Spec PyProof.Rows L2

/-! ### what is walked -/
section
variable {X : Cx} {tg : Expr}
def iSeq (K : PySem.W.Frag) (tl : TE) : TI := fun σ H R => tl σ H fun x H1 => (∃ a, x = .ref a ∧ (∃ xs, SqL K H1 a xs) ∧ R (Itl K a) H1) ∨ (∃ a, x = .ref a ∧ (∃ xs, SqT K H1 a xs) ∧ R (Itt K a) H1) ∨ ∃ z, x = .str z ∧ R (Its z) H1
theorem pi_seq {l : Expr} {tl : TE} (hl : PE X l tl) : PI X tg l (iSeq X.K tl) := by
  refine ⟨fun pins s σ H R I h => ?_⟩
  refine thn (hl.run pins s σ H _ I h) fun v s1 ⟨x, H1, I1, r1, q1⟩ => ?_
  rcases q1 with ⟨a, e, ⟨xs, hq⟩, q⟩ | ⟨a, e, ⟨xs, hq⟩, q⟩ | ⟨z, e, q⟩
  · subst e
    cases r1
    obtain ⟨its, rv, p, hz⟩ := I1.list hq
    refine wpAny_pyIter_list p.isList ?_
    refine ⟨s1.heap.objs.size, [s1.heap.objs.size], _, _, H1, rfl, I1.kept (t' := s1.toks) fun b o e => Heap.get?_push_of_some _ e, turn_list a _, ⟨_, Heap.get?_push_size _ rfl, rfl, rfl⟩, fun b hb => ?_, q⟩
    have e : b = s1.heap.objs.size := by simpa using hb
    subst e
    exact I1.fpOk (Nat.le_refl _) (I1.hok.fresh (Nat.le_refl _))
  · subst e
    cases r1
    obtain ⟨its, rv, p, hz⟩ := I1.tuple hq
    refine wpAny_pyIter_tuple (show s1.heap.IsTuple a its.toArray from p) ?_
    refine ⟨s1.heap.objs.size, [s1.heap.objs.size], _, _, H1, rfl, I1.kept (t' := s1.toks) fun b o e => Heap.get?_push_of_some _ e, turn_tuple a _, ⟨_, Heap.get?_push_size _ rfl, rfl, rfl⟩, fun b hb => ?_, q⟩
    have e : b = s1.heap.objs.size := by simpa using hb
    subst e
    exact I1.fpOk (Nat.le_refl _) (I1.hok.fresh (Nat.le_refl _))
  · subst e
    obtain ⟨t, rfl⟩ := r1
    cases ha : z.cps.all (· < 128)
    · exact wpAny_pyIter_wide ha (pi_one (tk := s1.toks) I1 _ (turn_str _ z t "str_iterator" (.inr rfl)) ⟨_, Heap.get?_push_size _ rfl, rfl, rfl⟩ q)
    · exact wpAny_pyIter_ascii ha (pi_one (tk := s1.toks) I1 _ (turn_str _ z t "str_ascii_iterator" (.inl rfl)) ⟨_, Heap.get?_push_size _ rfl, rfl, rfl⟩ q)
def itemsOf : D → Option (List D)
  | .tup l => some l
  | .lst l => some l
  | .scr l => some l
  | .str z => some (z.cps.toList.map fun c => .str ⟨#[c]⟩)
  | _ => none
def mItems (a : AE) : MI := fun ρ => do
  let (s, ρ1) ← a ρ
  match s with
  | .v c => match itemsOf c.d with
    | some l => R.ok (⟨l, none⟩, ρ1)
    | none => R.bad
  | .s i => match ρ1.get i with
    | some ⟨d, 0⟩ => match itemsOf d with
      | some l => R.ok (⟨l, none⟩, ρ1)
      | none => R.bad
    | some ⟨.lst l, 1⟩ => R.ok (⟨l, some i⟩, ρ1)
    | some ⟨.lst l, 2⟩ => R.ok (⟨l, none⟩, ρ1.set i (some ⟨.lst l, 0⟩))
    | _ => R.bad
theorem Ok.id_step {K : PySem.W.Frag} {H : Hp} {w : OM} : ∃ w3, (∀ (σ3 : L2.St) (ρ3 : Env), Ok K H w σ3 ρ3 → Ok K H w3 σ3 ρ3) ∧ (∀ m, Step m H w H w3) ∧ w3 = w := ⟨w, fun _ _ h => h, fun _ => Step.refl, rfl⟩
/-- a frozen datum is walked -/
theorem it_frozen {K : PySem.W.Frag} {n : Nat} {σ : L2.St} {H : Hp} {w : OM} {d : D} {v : V} {l : List D} (h : Fz K H w d v) (e : itemsOf d = some l) :
    (∃ a, v = .ref a ∧ (∃ xs, SqL K H a xs) ∧ ItOk K (Itl K a) n ⟨l, none⟩ σ H w) ∨ (∃ a, v = .ref a ∧ (∃ xs, SqT K H a xs) ∧ ItOk K (Itt K a) n ⟨l, none⟩ σ H w) ∨ ∃ z, v = .str z ∧ ItOk K (Its z) n ⟨l, none⟩ σ H w := by
  have onL : ∀ {a : Addr} {vs : List V}, (∀ (H2 : Hp) (w2 : OM), Step n H w H2 w2 → SqL K H2 a vs ∧ FzL K H2 w2 l vs) → ItOk K (Itl K a) n ⟨l, none⟩ σ H w := fun {a vs} st H2 w2 σ2 ρ2 j ok2 st2 _ _ => by
    obtain ⟨hs, fs⟩ := st H2 w2 st2
    refine ⟨fun d hd => ?_, fun hle => ⟨vs, hs, by rw [← fs.length]; exact hle⟩⟩
    obtain ⟨x, hx, fx⟩ := fs.get hd
    refine ⟨⟨vs, x, hs, hx⟩, fun y H3 ⟨e1, e2⟩ => ?_⟩
    subst e1
    have : y = x := by have := e2 vs hs; rw [hx] at this; exact (Option.some.inj this).symm
    subst this
    exact ⟨w2, fun _ _ h => h, fun _ => Step.refl, fx⟩
  have onT : ∀ {a : Addr} {vs : List V}, (∀ (H2 : Hp) (w2 : OM), Step n H w H2 w2 → SqT K H2 a vs ∧ FzL K H2 w2 l vs) → ItOk K (Itt K a) n ⟨l, none⟩ σ H w := fun {a vs} st H2 w2 σ2 ρ2 j ok2 st2 _ _ => by
    obtain ⟨hs, fs⟩ := st H2 w2 st2
    refine ⟨fun d hd => ?_, fun hle => ⟨vs, hs, by rw [← fs.length]; exact hle⟩⟩
    obtain ⟨x, hx, fx⟩ := fs.get hd
    refine ⟨⟨vs, x, hs, hx⟩, fun y H3 ⟨e1, e2⟩ => ?_⟩
    subst e1
    have : y = x := by have := e2 vs hs; rw [hx] at this; exact (Option.some.inj this).symm
    subst this
    exact ⟨w2, fun _ _ h => h, fun _ => Step.refl, fx⟩
  cases h with
  | tup ta fa => cases e; exact .inr (.inl ⟨_, rfl, ⟨_, ta.sq⟩, onT fun H2 w2 st => ⟨(ta.step (st.kp (o := .no) (.inl rfl))).sq, fa.step (st.kp (o := .no) (.inl rfl))⟩⟩)
  | lst ta na fa => cases e; exact .inl ⟨_, rfl, ⟨_, .inl (.inl ta)⟩, onL fun H2 w2 st => ⟨.inl (.inl (st _ _ ta (by rw [na]; exact .inl rfl)).1), fa.step (st.kp (o := .no) (.inl rfl))⟩⟩
  | scr ta fa => cases e; exact .inl ⟨_, rfl, ⟨_, ta.sq⟩, onL fun H2 w2 st => ⟨(ta.step (st.kp (o := .no) (.inl rfl))).sq, fa.step (st.kp (o := .no) (.inl rfl))⟩⟩
  | str z =>
    cases e
    refine .inr (.inr ⟨z, rfl, fun H2 w2 σ2 ρ2 j ok2 st2 _ _ => ⟨fun d hd => ?_, fun hle => ?_⟩⟩)
    · simp only [List.getElem?_map, Option.map_eq_some_iff] at hd
      obtain ⟨c, hc, rfl⟩ := hd
      have hj : z.cps[j]? = some c := by rw [← Array.getElem?_toList]; exact hc
      refine ⟨(Array.getElem?_eq_some_iff.mp hj).1, fun y H3 ⟨e1, c', e2, e3⟩ => ?_⟩
      subst e1 e3
      rw [hj] at e2
      cases e2
      exact ⟨w2, fun _ _ h => h, fun _ => Step.refl, .str _⟩
    · show z.cps.size ≤ j
      simpa using hle
  | _ => cases e
theorem si_seq {e : Expr} {m : AE} (he : SA X e m) : SI X tg e (mItems m) := by
  obtain ⟨t, p, g⟩ := he.ex
  refine ⟨_, pi_seq p, fun n σ H w ρ it ρ' Q ok hm k => ?_⟩
  obtain ⟨⟨s, ρ1⟩, e1, hm⟩ := R.of_bind hm
  dsimp only at hm
  cases s with
  | v c =>
    dsimp only at hm
    split at hm
    · rename_i l hl
      cases hm
      refine g n σ H w ρ _ _ _ ok e1 fun v H1 w1 ok1 st1 sa => ?_
      have sa : Ow X.K H1 w1 (.tm n) c.k c.d v := sa
      have ok2 : Ok X.K H1 (w1.re (.tm n) .no) σ _ := ok1.re (by intro z; cases z) (by intro i z; cases z)
      have st2 : Step n H w H1 (w1.re (.tm n) .no) := st1.trans (Step.re not_fixed_tm)
      rcases it_frozen (n := 0) (σ := σ) (sa.freeze (by intro z; cases z)) hl with ⟨a, e, hq, io⟩ | ⟨a, e, hq, io⟩ | ⟨z, e, io⟩
      · exact .inl ⟨a, e, hq, k _ H1 _ ok2 st2 rfl io⟩
      · exact .inr (.inl ⟨a, e, hq, k _ H1 _ ok2 st2 rfl io⟩)
      · exact .inr (.inr ⟨z, e, k _ H1 _ ok2 st2 rfl io⟩)
    · cases hm
  | s i =>
    dsimp only at hm
    split at hm
    · rename_i d hd
      split at hm
      · rename_i l hl
        cases hm
        refine g n σ H w ρ _ _ _ ok e1 fun v H1 w1 ok1 st1 sa => ?_
        have sa : σ[i]? = some (some v) := sa
        obtain ⟨u, eu, ow⟩ := ok1.slot i _ hd
        rw [sa] at eu
        cases eu
        have fz : Fz X.K H1 w1 d v := by cases ow with | fz h => exact h
        rcases it_frozen (n := 0) (σ := σ) fz hl with ⟨a, e, hq, io⟩ | ⟨a, e, hq, io⟩ | ⟨z, e, io⟩
        · exact .inl ⟨a, e, hq, k _ H1 _ ok1 st1 rfl io⟩
        · exact .inr (.inl ⟨a, e, hq, k _ H1 _ ok1 st1 rfl io⟩)
        · exact .inr (.inr ⟨z, e, k _ H1 _ ok1 st1 rfl io⟩)
      · cases hm
    · rename_i l hd
      cases hm
      refine g n σ H w ρ _ _ _ ok e1 fun v H1 w1 ok1 st1 sa => ?_
      have sa : σ[i]? = some (some v) := sa
      obtain ⟨u, eu, ow⟩ := ok1.slot i _ hd
      rw [sa] at eu
      cases eu
      obtain ⟨a, vs, rfl, hq, _, _⟩ := ow_lst ow
      refine .inl ⟨a, rfl, ⟨vs, .inl (.inl hq)⟩, k _ H1 _ ok1 st1 (by unfold chkOk; simp [hd]) fun H2 w2 σ2 ρ2 j ok2 st2 lk ck => ?_⟩
      have e3 := lk i rfl
      unfold chkOk at ck
      dsimp only at ck
      split at ck
      · rename_i c2 hc2
        rw [Bool.and_eq_true] at ck
        have k1 : c2.k ≤ 1 := of_decide_eq_true ck.1
        have d1 : c2.d = .lst l := of_decide_eq_true ck.2
        obtain ⟨u2, eu2, ow2⟩ := ok2.slot i _ hc2
        rw [e3, sa] at eu2
        cases eu2
        rw [d1] at ow2
        obtain ⟨a2, ws, ea, hq2, _, f2⟩ := ow_lst ow2
        cases ea
        have fs := f2 k1
        refine ⟨fun d hd => ?_, fun hle => ⟨ws, .inl (.inl hq2), by rw [← fs.length]; exact hle⟩⟩
        obtain ⟨x, hx, fx⟩ := fs.get hd
        refine ⟨⟨ws, x, .inl (.inl hq2), hx⟩, fun y H3 ⟨e1, e2⟩ => ?_⟩
        subst e1
        have : y = x := by have := e2 ws (.inl (.inl hq2)); rw [hx] at this; exact (Option.some.inj this).symm
        subst this
        exact ⟨w2, fun _ _ h => h, fun _ => Step.refl, fx⟩
      · cases ck
    · rename_i l hd
      cases hm
      refine g n σ H w ρ _ _ _ ok e1 fun v H1 w1 ok1 st1 sa => ?_
      have sa : σ[i]? = some (some v) := sa
      obtain ⟨u, eu, ow⟩ := ok1.slot i _ hd
      rw [sa] at eu
      cases eu
      have fz := ow.freeze (by intro z; cases z)
      have ok2 := ok1.freeze hd
      have st2 := st1.trans (Step.re (o' := .no) (not_fixed_sl (n := n) (i := i)))
      rcases it_frozen (n := 0) (σ := σ) fz (l := l) rfl with ⟨a, e, hq, io⟩ | ⟨a, e, hq, io⟩ | ⟨z, e, io⟩
      · exact .inl ⟨a, e, hq, k _ H1 _ ok2 st2 rfl io⟩
      · exact .inr (.inl ⟨a, e, hq, k _ H1 _ ok2 st2 rfl io⟩)
      · exact .inr (.inr ⟨z, e, k _ H1 _ ok2 st2 rfl io⟩)
    · cases hm
/-- the ints a .. b - 1 -/
def rgD (a b : Int) : List D := (List.range (b - a).toNat).map fun i => D.int (a + (i : Nat))
theorem rgD_length (a b : Int) : (rgD a b).length = (b - a).toNat := by unfold rgD; rw [List.length_map, List.length_range]
theorem it_range {K : PySem.W.Frag} {n : Nat} {σ : L2.St} {H : Hp} {w : OM} (a b : Int) : ItOk K (Itr a (b - a).toNat) n ⟨rgD a b, none⟩ σ H w := fun H2 w2 σ2 ρ2 j ok2 st2 _ _ => by
  refine ⟨fun d hd => ?_, fun hle => by rw [rgD_length] at hle; exact hle⟩
  unfold rgD at hd
  simp only [List.getElem?_map, Option.map_eq_some_iff] at hd
  obtain ⟨i, hi, rfl⟩ := hd
  rw [List.getElem?_eq_some_iff] at hi
  obtain ⟨hj, hi⟩ := hi
  rw [List.length_range] at hj
  rw [List.getElem_range] at hi
  subst hi
  refine ⟨hj, fun x H3 ⟨e1, e2⟩ => ?_⟩
  subst e1 e2
  exact ⟨w2, fun _ _ h => h, fun _ => Step.refl, .int _⟩
def rgB (a b : Int) : Bool := decide (-(2 ^ 62) ≤ a ∧ a < 2 ^ 62 ∧ -(2 ^ 62) ≤ b ∧ b < 2 ^ 62)
def mRange1 (a : AE) : MI := fun ρ => do
  let (s, ρ1) ← a ρ
  match s.cell ρ1 with
  | some ⟨.int j, _⟩ => if rgB 0 j then R.ok (⟨rgD 0 j, none⟩, ρ1) else R.bad
  | _ => R.bad
def mRange2 (a b : AE) : MI := fun ρ => do
  let (s, ρ1) ← a ρ
  let (u, ρ2) ← b ρ1
  match s.cell ρ2, u.cell ρ2 with
  | some ⟨.int i, _⟩, some ⟨.int j, _⟩ => if rgB i j then R.ok (⟨rgD i j, none⟩, ρ2) else R.bad
  | _, _ => R.bad
theorem si_range1 {a : Expr} {m : AE} {p pos : Pos} (hm : X.mg "range" = none) (ha : SA X a m) (hg : Gl X "range" := by rfl) (hs : starEach [a] X.env = [(false, eval a X.env)] := by rfl) (he : starEach [a] X.env = (false, eval a X.env) :: starEach [] X.env := by rfl) :
    SI X tg (.Call (.Name "range" p) [a] [] pos) (mRange1 m) := by
  obtain ⟨t, q, g⟩ := ha.ex
  refine ⟨_, pi_range1 hg hm (pa_cons q pa_nil he) hs, fun n σ H w ρ it ρ' Q ok hm k => ?_⟩
  obtain ⟨⟨s, ρ1⟩, e1, hm⟩ := R.of_bind hm
  dsimp only at hm
  split at hm
  · rename_i j _ hc
    split at hm
    · rename_i hb
      cases hm
      refine g n σ H w ρ s _ _ ok e1 fun v H1 w1 ok1 st1 sa => ?_
      obtain ⟨o, _, h1⟩ := sa.cell ok1 hc
      cases ow_int h1
      have hb := of_decide_eq_true hb
      refine ⟨j, rfl, hb.2.2.1, hb.2.2.2, k _ H1 w1 ok1 st1 rfl ?_⟩
      have := it_range (K := X.K) (n := 0) (σ := σ) (H := H1) (w := w1) 0 j
      rw [Int.sub_zero] at this
      exact this
    · cases hm
  · cases hm
theorem si_range2 {a b : Expr} {m m2 : AE} {p pos : Pos} (hm : X.mg "range" = none) (ha : SA X a m) (hb : SA X b m2) (hg : Gl X "range" := by rfl) (hs : starEach [a, b] X.env = [(false, eval a X.env), (false, eval b X.env)] := by rfl) (hs2 : starEach [b] X.env = [(false, eval b X.env)] := by rfl)
    (he : starEach [a, b] X.env = (false, eval a X.env) :: starEach [b] X.env := by rfl) (he2 : starEach [b] X.env = (false, eval b X.env) :: starEach [] X.env := by rfl) :
    SI X tg (.Call (.Name "range" p) [a, b] [] pos) (mRange2 m m2) := by
  obtain ⟨t, q, g⟩ := ha.ex
  obtain ⟨t2, q2, g2⟩ := hb.ex
  refine ⟨_, pi_range2 hg hm (pa_cons q (pa_cons q2 pa_nil he2) he) hs hs2, fun n σ H w ρ it ρ' Q ok hm k => ?_⟩
  obtain ⟨⟨s, ρ1⟩, e1, hm⟩ := R.of_bind hm
  obtain ⟨⟨u, ρ2⟩, e2, hm⟩ := R.of_bind hm
  dsimp only at hm e2
  split at hm
  · rename_i i _ j _ hc hd
    split at hm
    · rename_i hb
      cases hm
      refine g n σ H w ρ s _ _ ok e1 fun v H1 w1 ok1 st1 sa => ?_
      refine g2 (n + 1) σ H1 w1 ρ1 u _ _ ok1 e2 fun v2 H2 w2 ok2 st2 sa2 => ?_
      obtain ⟨o, _, h1⟩ := (sa.step st2 (Nat.lt_succ_self n)).cell ok2 hc
      obtain ⟨o2, _, h2⟩ := sa2.cell ok2 hd
      cases ow_int h1
      cases ow_int h2
      have hb := of_decide_eq_true hb
      exact ⟨i, j, rfl, hb, k _ H2 w2 ok2 (st1.trans (st2.mono (Nat.le_succ n))) rfl (it_range i j)⟩
    · cases hm
  · cases hm

/-! ### list(range(..)), tuple(range(..)) -/
structure SRg (X : Cx) (e : Expr) (m : Env → R ((Int × Int) × Env)) : Prop where
  ex : ∃ t, PRg X e t ∧ ∀ (n : Nat) (σ : L2.St) (H : Hp) (w : OM) (ρ : Env) (a b : Int) (ρ' : Env) (Q : Int → Int → Hp → Prop), Ok X.K H w σ ρ → m ρ = .ok ((a, b), ρ') →
    (∀ H' w', Ok X.K H' w' σ ρ' → Step n H w H' w' → Q a b H') → t σ H Q
def mRg1 (a : AE) : Env → R ((Int × Int) × Env) := fun ρ => do
  let (s, ρ1) ← a ρ
  match s.cell ρ1 with
  | some ⟨.int j, _⟩ => R.ok ((0, j), ρ1)
  | _ => R.bad
def mRg2 (a b : AE) : Env → R ((Int × Int) × Env) := fun ρ => do
  let (s, ρ1) ← a ρ
  let (u, ρ2) ← b ρ1
  match s.cell ρ2, u.cell ρ2 with
  | some ⟨.int i, _⟩, some ⟨.int j, _⟩ => R.ok ((i, j), ρ2)
  | _, _ => R.bad
theorem srg_1 {a : Expr} {m : AE} {p pos : Pos} (hm : X.mg "range" = none) (ha : SA X a m) (hg : Gl X "range" := by rfl) (na : starEach [a] X.env = (false, eval a X.env) :: starEach [] X.env := by rfl) : SRg X (.Call (.Name "range" p) [a] [] pos) (mRg1 m) := by
  obtain ⟨t, q, g⟩ := ha.ex
  refine ⟨_, prg_1 hg hm q na, fun n σ H w ρ a b ρ' Q ok hm k => ?_⟩
  obtain ⟨⟨s, ρ1⟩, e1, hm⟩ := R.of_bind hm
  dsimp only at hm
  split at hm
  · rename_i j _ hc
    cases hm
    refine g n σ H w ρ s _ _ ok e1 fun v H1 w1 ok1 st1 sa => ?_
    obtain ⟨o, _, h1⟩ := sa.cell ok1 hc
    cases ow_int h1
    exact ⟨_, rfl, k H1 w1 ok1 st1⟩
  · cases hm
theorem srg_2 {a b : Expr} {m m2 : AE} {p pos : Pos} (hm : X.mg "range" = none) (ha : SA X a m) (hb : SA X b m2) (hg : Gl X "range" := by rfl) (na : starEach [a, b] X.env = (false, eval a X.env) :: starEach [b] X.env := by rfl)
    (nb : starEach [b] X.env = (false, eval b X.env) :: starEach [] X.env := by rfl) (hp : (backTo pos (starEach [b] X.env)).any (·.1) = false := by rfl) : SRg X (.Call (.Name "range" p) [a, b] [] pos) (mRg2 m m2) := by
  obtain ⟨t, q, g⟩ := ha.ex
  obtain ⟨t2, q2, g2⟩ := hb.ex
  refine ⟨_, prg_2 hg hm q q2 na nb hp, fun n σ H w ρ a b ρ' Q ok hm k => ?_⟩
  obtain ⟨⟨s, ρ1⟩, e1, hm⟩ := R.of_bind hm
  obtain ⟨⟨u, ρ2⟩, e2, hm⟩ := R.of_bind hm
  dsimp only at hm e2
  split at hm
  · rename_i i _ j _ hc hd
    cases hm
    refine g n σ H w ρ s _ _ ok e1 fun v H1 w1 ok1 st1 sa => ?_
    refine g2 (n + 1) σ H1 w1 ρ1 u _ _ ok1 e2 fun v2 H2 w2 ok2 st2 sa2 => ?_
    obtain ⟨o, _, h1⟩ := (sa.step st2 (Nat.lt_succ_self n)).cell ok2 hc
    obtain ⟨o2, _, h2⟩ := sa2.cell ok2 hd
    cases ow_int h1
    cases ow_int h2
    exact ⟨_, _, rfl, rfl, k H2 w2 ok2 (st1.trans (st2.mono (Nat.le_succ n)))⟩
  · cases hm
def rgOkB (a b : Int) : Bool := rgB a b && decide ((b - a).toNat ≤ 16777216)
theorem rgOkB_ok {a b : Int} (h : rgOkB a b = true) : RgOk a b := by
  unfold rgOkB rgB at h
  simp only [Bool.and_eq_true, decide_eq_true_eq] at h
  exact ⟨h.1.1, h.1.2.1, h.1.2.2.1, h.1.2.2.2, h.2⟩
theorem rg_fz {K : PySem.W.Frag} {H : Hp} {w : OM} (a b : Int) : FzL K H w (rgD a b) (rgV a b) := by
  unfold rgD rgV
  generalize (List.range (b - a).toNat) = l
  induction l with
  | nil => exact .nil
  | cons x r ih => exact .cons (.int _) ih
def mListRg (m : Env → R ((Int × Int) × Env)) : AE := fun ρ => do
  let (x, ρ1) ← m ρ
  if rgOkB x.1 x.2 then R.ok (.v ⟨.lst (rgD x.1 x.2), 1⟩, ρ1) else R.bad
def mTupRg (m : Env → R ((Int × Int) × Env)) : AE := fun ρ => do
  let (x, ρ1) ← m ρ
  if rgOkB x.1 x.2 then R.ok (.v (Cell.fz (.tup (rgD x.1 x.2))), ρ1) else R.bad
theorem sa_listRg {e : Expr} {m : Env → R ((Int × Int) × Env)} {p pos : Pos} (hc : X.calm = true) (hm : X.mg "list" = none) (h : SRg X e m) (hg : Gl X "list" := by rfl) (na : starEach [e] X.env = (false, eval e X.env) :: starEach [] X.env := by rfl) : SA X (.Call (.Name "list" p) [e] [] pos) (mListRg m) := by
  obtain ⟨t, q, g⟩ := h.ex
  refine ⟨_, pe_listRg hc hg hm q na, fun n σ H w ρ s ρ' Q ok hm k => ?_⟩
  obtain ⟨⟨⟨a, b⟩, ρ1⟩, e1, hm⟩ := R.of_bind hm
  dsimp only at hm
  split at hm
  · rename_i hb
    cases hm
    refine g n σ H w ρ a b _ _ ok e1 fun H1 w1 ok1 st1 => ⟨rgOkB_ok hb, fun p hp => ?_⟩
    exact k _ _ (w1.put p (.tm n)) (ok1.new hp _) (st1.trans (Step.new hp)) (.lst upd_same OM.put_same (rg_fz a b))
  · cases hm
theorem sa_tupRg {e : Expr} {m : Env → R ((Int × Int) × Env)} {p pos : Pos} (hc : X.calm = true) (hm : X.mg "tuple" = none) (h : SRg X e m) (hg : Gl X "tuple" := by rfl) (na : starEach [e] X.env = (false, eval e X.env) :: starEach [] X.env := by rfl) : SA X (.Call (.Name "tuple" p) [e] [] pos) (mTupRg m) := by
  obtain ⟨t, q, g⟩ := h.ex
  refine ⟨_, pe_tupRgF hc hg hm q na, fun n σ H w ρ s ρ' Q ok hm k => ?_⟩
  obtain ⟨⟨⟨a, b⟩, ρ1⟩, e1, hm⟩ := R.of_bind hm
  dsimp only at hm
  split at hm
  · rename_i hb
    cases hm
    refine g n σ H w ρ a b _ _ ok e1 fun H1 w1 ok1 st1 => ⟨rgOkB_ok hb, fun p ob hp hd => ?_⟩
    exact k _ _ (w1.put p .no) (ok1.new hp _) (st1.trans (Step.new hp)) (.fz (.tup (.inl ⟨⟨ob, upd_same, hd⟩, OM.put_same⟩) (rg_fz a b)))
  · cases hm

/-! ### isinstance -/
def isT (T : String) : D → Option Bool
  | .non => if T = "int" ∨ T = "str" ∨ T = "tuple" ∨ T = "list" ∨ T = "bool" ∨ T = "dict" then some false else none
  | .bl _ => if T = "int" ∨ T = "bool" then some true else if T = "str" ∨ T = "tuple" ∨ T = "list" ∨ T = "dict" then some false else none
  | .int _ => if T = "int" then some true else if T = "str" ∨ T = "tuple" ∨ T = "list" ∨ T = "bool" ∨ T = "dict" then some false else none
  | .str _ => if T = "str" then some true else if T = "int" ∨ T = "tuple" ∨ T = "list" ∨ T = "bool" ∨ T = "dict" then some false else none
  | .tup _ => if T = "tuple" then some true else if T = "int" ∨ T = "str" ∨ T = "list" ∨ T = "bool" ∨ T = "dict" then some false else none
  | .lst _ => if T = "list" then some true else if T = "int" ∨ T = "str" ∨ T = "tuple" ∨ T = "bool" ∨ T = "dict" then some false else none
  | _ => none
def fIsi (T : String) : List Cell → R Cell
  | [c] => match isT T c.d with
    | some b => .ok (Cell.fz (.bl b))
    | none => .bad
  | _ => .bad
def tyN : D → String
  | .non => "NoneType"
  | .bl _ => "bool"
  | .int _ => "int"
  | .str _ => "str"
  | .tup _ => "tuple"
  | .lst _ => "list"
  | .scr _ => "list"
  | .dct _ _ => "dict"
theorem kit_two {T t : String} {b x y : Bool} {P Q : Prop} [Decidable P] [Decidable Q] (e : (if P then some x else if Q then some y else none) = some b) (hp : P → kitB t T = some x) (hq : Q → kitB t T = some y) : kitB t T = some b := by
  split at e
  · cases e; exact hp (by assumption)
  · split at e
    · cases e; exact hq (by assumption)
    · cases e
theorem isT_ok {T : String} {d : D} {b : Bool} (e : isT T d = some b) : kitB (tyN d) T = some b := by
  cases d with
  | non =>
    dsimp only [isT] at e
    dsimp only [tyN]
    split at e
    · rename_i h
      cases e
      rcases h with rfl | rfl | rfl | rfl | rfl | rfl <;> decide +kernel
    · cases e
  | bl x =>
    dsimp only [isT] at e
    dsimp only [tyN]
    refine kit_two e (fun h => ?_) fun h => ?_
    · rcases h with rfl | rfl <;> decide +kernel
    · rcases h with rfl | rfl | rfl | rfl <;> decide +kernel
  | int x =>
    dsimp only [isT] at e
    dsimp only [tyN]
    refine kit_two e (fun h => ?_) fun h => ?_
    · subst h; decide +kernel
    · rcases h with rfl | rfl | rfl | rfl | rfl <;> decide +kernel
  | str x =>
    dsimp only [isT] at e
    dsimp only [tyN]
    refine kit_two e (fun h => ?_) fun h => ?_
    · subst h; decide +kernel
    · rcases h with rfl | rfl | rfl | rfl | rfl <;> decide +kernel
  | tup x =>
    dsimp only [isT] at e
    dsimp only [tyN]
    refine kit_two e (fun h => ?_) fun h => ?_
    · subst h; decide +kernel
    · rcases h with rfl | rfl | rfl | rfl | rfl <;> decide +kernel
  | lst x =>
    dsimp only [isT] at e
    dsimp only [tyN]
    refine kit_two e (fun h => ?_) fun h => ?_
    · subst h; decide +kernel
    · rcases h with rfl | rfl | rfl | rfl | rfl <;> decide +kernel
  | _ => cases e
theorem ow_ty {K : PySem.W.Frag} {H : Hp} {w : OM} {o : Own} {k : Nat} {T : String} {d : D} {v : V} {b : Bool} (h : Ow K H w o k d v) (e : isT T d = some b) : TyX K H v (.type (tyN d)) := by
  cases d with
  | non => cases ow_non h; exact .base .non
  | bl x => cases ow_bl h; exact .base (.bl _)
  | int x => cases ow_int h; exact .base (.int _)
  | str x => cases ow_str h; exact .base (.str _)
  | tup l =>
    obtain ⟨a, xs, rfl, ta, fa⟩ := ow_tup h
    rcases ta with ⟨⟨q, ta, _⟩, _⟩ | ⟨ob, its, n, hk, hc, _⟩
    · exact .fTuple ta
    · exact .kTuple hk hc
  | lst l =>
    obtain ⟨a, xs, rfl, ta, _⟩ := ow_lst h
    exact .base (.lst ta)
  | _ => cases e
/-- isinstance(e, T), T a built-in type's name -/
theorem sa_isi {T : String} {e : Expr} {m : AE} {p q pos : Pos} (hm : X.mg "isinstance" = none) (hmT : X.mg (Str.ofString T) = none) (ha : SA X e m) (hv : bootBuiltins (Str.ofString T) = some (.type T)) (hg : Gl X "isinstance" := by rfl) (hgT : Gl X (Str.ofString T) := by rfl)
    (hn : (Str.ofString T) ≠ "__name__" := by decide) (hd : ((Str.ofString T) == ("__debug__" : Str)) = false := by decide)
    (he : starEach (e :: [.Name (Str.ofString T) q]) X.env = (false, eval e X.env) :: starEach [.Name (Str.ofString T) q] X.env := by rfl) (he2 : starEach [.Name (Str.ofString T) q] X.env = (false, eval (.Name (Str.ofString T) q) X.env) :: starEach [] X.env := by rfl)
    (hpl : (backTo pos (starEach [.Name (Str.ofString T) q] X.env)).any (·.1) = false := by rfl) : SA X (.Call (.Name "isinstance" p) [e, .Name (Str.ofString T) q] [] pos) (mPrim (fIsi T) [m]) := by
  obtain ⟨t, pe, g⟩ := ha.ex
  refine ⟨_, pe_callB call_isi hg hm (by decide +kernel) (pa_cons pe (pa_cons (pe_bltn (v := .ty T) (u := .type T) hgT hmT hv rfl hn hd) pa_nil he2) he) (by decide) (by decide) he hpl, fun n σ H w ρ s ρ' Q ok hm k => ?_⟩
  obtain ⟨ss, cs, c, e1, e2, e3, rfl⟩ := mPrim_ok hm
  obtain ⟨⟨s1, ρ1⟩, f1, e1⟩ := R.of_bind e1
  cases e1
  refine g n σ H w ρ s1 _ _ ok f1 fun v H1 w1 ok1 st1 sa => ?_
  have ow := SrcsAt.cells (n := n) (ss := [s1]) (vs := [v]) ok1 ⟨sa, trivial⟩ e2
  unfold fIsi at e3
  split at e3
  · rename_i c1
    split at e3
    · rename_i b hb
      cases e3
      obtain ⟨v', o, ev, h1⟩ := ow.one
      cases ev
      exact ⟨v, .ty T, _, _, b, rfl, .ty T, ow_ty h1 hb, kit_ty (isT_ok hb), k _ H1 w1 ok1 st1 (.fz (.bl _))⟩
    · cases e3
  · cases e3
end
end Z

/-! Z: comprehensions. -/
namespace Z
open PySem PySem.Spec PyProof.Rows L2

/-! ### readings that hang on what is reckoned alone -/
def rdE (K : PySem.W.Frag) (m : AE) : TE := fun σ H Q => ∃ (n : Nat) (w : OM) (ρ : Env) (s : Src) (ρ' : Env), Ok K H w σ ρ ∧ m ρ = .ok (s, ρ') ∧ ∀ v H' w', Ok K H' w' σ ρ' → Step n H w H' w' → SrcAt K H' w' σ n s v → Q v H'
def rdT (K : PySem.W.Frag) (m : MT) : TT := fun σ H Q => ∃ (n : Nat) (w : OM) (ρ : Env) (b : Bool) (ρ' : Env), Ok K H w σ ρ ∧ m ρ = .ok (b, ρ') ∧ ∀ H' w', Ok K H' w' σ ρ' → Step n H w H' w' → Q b H'
def rdG (K : PySem.W.Frag) (sl : List Nat) (m : MG) : TG := fun v σ H Q => ∃ (w : OM) (ρ : Env) (L : List Nat) (d : D) (ρ' : Env), Ok K H w σ ρ ∧ Fz K H w d v ∧ m d L ρ = .ok ρ' ∧
  ∀ σ', Ok K H w σ' ρ' → σ'.length = σ.length → (∀ i, i ∉ sl → σ'[i]? = σ[i]?) → (∀ i ∈ L, σ'[i]? = σ[i]?) → Q σ' H
section
variable {X : Cx}
theorem SA.rd {e : Expr} {m : AE} (h : SA X e m) : PE X e (rdE X.K m) := by
  obtain ⟨t, p, g⟩ := h.ex
  exact ⟨fun pins s σ H Q I ⟨n, w, ρ, s', ρ', ok, hm, k⟩ => p.run pins s σ H Q I (g n σ H w ρ s' ρ' Q ok hm k)⟩
theorem SG.rd {e : Expr} {sl : List Nat} {m : MG} (h : SG X e sl m) : PG X e (rdG X.K sl m) := by
  obtain ⟨t, p, g⟩ := h.ex
  exact ⟨fun pins s σ H v u Q I r ⟨w, ρ, L, d, ρ', ok, fz, hm, k⟩ => p.run pins s σ H v u Q I r (g σ H w ρ L d v ρ' Q ok fz hm k)⟩
structure STs (X : Cx) (ifs : List Expr) (m : MT) : Prop where
  ex : ∃ t, PTs X ifs t ∧ ∀ (n : Nat) (σ : L2.St) (H : Hp) (w : OM) (ρ : Env) (b : Bool) (ρ' : Env) (Q : Bool → Hp → Prop), Ok X.K H w σ ρ → m ρ = .ok (b, ρ') →
    (∀ H' w', Ok X.K H' w' σ ρ' → Step n H w H' w' → Q b H') → t σ H Q
theorem STs.rd {ifs : List Expr} {m : MT} (h : STs X ifs m) : PTs X ifs (rdT X.K m) := by
  obtain ⟨t, p, g⟩ := h.ex
  exact ⟨fun pins s σ H Q I ⟨n, w, ρ, b, ρ', ok, hm, k⟩ => p.run pins s σ H Q I (g n σ H w ρ b ρ' Q ok hm k)⟩
def mYes : MT := fun ρ => .ok (true, ρ)
theorem sts_nil : STs X [] mYes := ⟨_, pts_nil, fun n σ H w ρ b ρ' Q ok hm k => by
  cases hm
  exact k H w ok Step.refl⟩
theorem sts_one {c : Expr} {m : MT} (h : ST X c m) : STs X [c] m := by
  obtain ⟨t, p, g⟩ := h.ex
  exact ⟨t, pts_one p, g⟩

def wipeE (ρ : Env) : List Nat → Env
  | [] => ρ
  | i :: r => (wipeE ρ r).set i none
def restore (ρ ρ0 : Env) : List Nat → Env
  | [] => ρ
  | i :: r => (restore ρ ρ0 r).set i (ρ0.get i)
def ownOk (ρ : Env) (vs : List Nat) : Bool := vs.all fun i => match ρ.get i with
  | some c => decide (c.k = 0)
  | none => true
theorem wipeE_length (ρ : Env) : ∀ vs, (wipeE ρ vs).length = ρ.length
  | [] => rfl
  | i :: r => by rw [wipeE, Env.length_set, wipeE_length ρ r]
theorem restore_length (ρ ρ0 : Env) : ∀ vs, (restore ρ ρ0 vs).length = ρ.length
  | [] => rfl
  | i :: r => by rw [restore, Env.length_set, restore_length ρ ρ0 r]
theorem wipeE_get {ρ : Env} {i : Nat} {c : Cell} : ∀ {vs : List Nat}, (wipeE ρ vs).get i = some c → ρ.get i = some c ∧ i ∉ vs
  | [], h => ⟨h, by simp⟩
  | j :: r, h => by
    rcases Env.get_set h with ⟨_, z⟩ | ⟨hj, z⟩
    · cases z
    · obtain ⟨h1, h2⟩ := wipeE_get z
      exact ⟨h1, by simp [hj, h2]⟩
theorem restore_get {ρ ρ0 : Env} {i : Nat} {c : Cell} : ∀ {vs : List Nat}, (restore ρ ρ0 vs).get i = some c → (i ∉ vs ∧ ρ.get i = some c) ∨ (i ∈ vs ∧ ρ0.get i = some c)
  | [], h => .inl ⟨by simp, h⟩
  | j :: r, h => by
    rcases Env.get_set h with ⟨e, z⟩ | ⟨hj, z⟩
    · subst e; exact .inr ⟨by simp, z⟩
    · rcases restore_get z with ⟨h1, h2⟩ | ⟨h1, h2⟩
      · exact .inl ⟨by simp [hj, h1], h2⟩
      · exact .inr ⟨by simp [h1], h2⟩
theorem wipe_get {σ : L2.St} {i : Nat} : ∀ {vs : List Nat}, (wipe σ vs)[i]? = if i ∈ vs then (σ[i]?).map (fun _ => none) else σ[i]?
  | [] => by simp [wipe]
  | j :: r => by
    rw [wipe]
    by_cases e : j = i
    · subst e
      rw [if_pos (by simp)]
      by_cases hl : j < σ.length
      · rw [List.getElem?_set_self (by rw [wipe_length]; exact hl), List.getElem?_eq_getElem hl]; rfl
      · rw [List.getElem?_eq_none (by rw [List.length_set, wipe_length]; omega), List.getElem?_eq_none (by omega)]; rfl
    · rw [List.getElem?_set_ne e, wipe_get]
      have : (i ∈ j :: r) ↔ (i ∈ r) := by simp [Ne.symm e]
      simp only [this]
theorem wipe_eq {σ σ2 : L2.St} {vs : List Nat} (hl : σ2.length = σ.length) (h : ∀ i, i ∉ vs → σ2[i]? = (wipe σ vs)[i]?) : wipe σ2 vs = wipe σ vs := by
  refine List.ext_getElem? fun i => ?_
  rw [wipe_get]
  by_cases hi : i ∈ vs
  · rw [if_pos hi, wipe_get, if_pos hi]
    by_cases h' : i < σ.length
    · rw [List.getElem?_eq_getElem h', List.getElem?_eq_getElem (by omega)]; rfl
    · rw [List.getElem?_eq_none (by omega), List.getElem?_eq_none (by omega)]
  · rw [if_neg hi]; exact h i hi
section
variable {K : PySem.W.Frag} {H : Hp} {w : OM} {σ : L2.St} {ρ : Env}
theorem Ok.wipe (ok : Ok K H w σ ρ) (vs : List Nat) : Ok K H w (L2.wipe σ vs) (wipeE ρ vs) := by
  refine ⟨by rw [wipe_length, wipeE_length]; exact ok.len, fun i c h => ?_, ok.live⟩
  obtain ⟨h1, h2⟩ := wipeE_get h
  obtain ⟨v, e, q⟩ := ok.slot i c h1
  exact ⟨v, by rw [wipe_get, if_neg h2]; exact e, q⟩
theorem Ok.wipe2 {σ0 : L2.St} {vs : List Nat} (ok : Ok K H w σ ρ) (hw : L2.wipe σ vs = L2.wipe σ0 vs) : Ok K H w (L2.wipe σ0 vs) (wipeE ρ vs) := by
  rw [← hw]; exact ok.wipe vs
theorem Ok.write {p : Addr} {u : HO} {n : Nat} (ok : Ok K H w σ ρ) (hp : w p = .tm n) : Ok K (upd H p u) w σ ρ := by
  refine ⟨ok.len, fun i c h => ?_, fun a h => ?_⟩
  · obtain ⟨v, e, q⟩ := ok.slot i c h
    exact ⟨v, e, q.step (Kp.write (by rw [hp]; intro z; cases z) (by rw [hp]; intro z; cases z))⟩
  · by_cases z : a = p
    · subst z; rw [upd_same]; exact fun q => nomatch q
    · rw [upd_ne z]; exact ok.live a h
end
def loopC (it : ItD) (g : MG) (tt : MT) (me : AE) (vs : List Nat) : List D → Env → R (List D × Env)
  | [], ρ => .ok ([], ρ)
  | d :: r, ρ => do
    let ρa ← g d [] ρ
    let (b, ρb) ← tt ρa
    if b then do
      let (s, ρc) ← me ρb
      let (c, ρd) ← esc s ρc
      if chkOk it (wipeE ρd vs) then do
        let (acc, ρe) ← loopC it g tt me vs r (wipeE ρd vs)
        R.ok (c.d :: acc, ρe)
      else R.bad
    else if chkOk it (wipeE ρb vs) then loopC it g tt me vs r (wipeE ρb vs) else R.bad
def mComp (mi : MI) (g : MG) (tt : MT) (me : AE) (vs : List Nat) : AE := fun ρ => do
  let (it, ρ1) ← mi ρ
  if ownOk ρ1 vs && decide (it.items.length ≤ 16777216) && chkOk it (wipeE ρ1 vs) then do
    let (acc, ρ2) ← loopC it g tt me vs it.items (wipeE ρ1 vs)
    R.ok (.v ⟨.lst acc, 1⟩, restore ρ2 ρ1 vs)
  else R.bad
theorem lc_sem {tg : Expr} {wi : TI} {mi : MI} {g : MG} {tt : MT} {me : AE} {sl vs : List Nat} (hsl : ∀ i ∈ sl, i ∈ vs)
    (f : ∀ (n : Nat) (σ : L2.St) (H : Hp) (w : OM) (ρ : Env) (it : ItD) (ρ' : Env) (Q : It → Hp → Prop), Ok X.K H w σ ρ → mi ρ = .ok (it, ρ') →
      (∀ J H' w', Ok X.K H' w' σ ρ' → Step n H w H' w' → chkOk it ρ' = true → ItOk X.K J 0 it σ H' w' → Q J H') → wi σ H Q) :
    ∀ (n : Nat) (σ : L2.St) (H : Hp) (w : OM) (ρ : Env) (s : Src) (ρ' : Env) (Q : VK), Ok X.K H w σ ρ → mComp mi g tt me vs ρ = .ok (s, ρ') →
    (∀ v H' w', Ok X.K H' w' σ ρ' → Step n H w H' w' → SrcAt X.K H' w' σ n s v → Q v H') → tLc wi (rdG X.K sl g) (rdT X.K tt) (rdE X.K me) vs σ H Q := by
  intro n σ H w ρ s ρ' Q ok hm k
  obtain ⟨⟨it, ρ1⟩, e1, hm⟩ := R.of_bind hm
  dsimp only at hm
  split at hm
  · rename_i hc
    obtain ⟨⟨total, ρ2⟩, e2, hm⟩ := R.of_bind hm
    cases hm
    simp only [Bool.and_eq_true, decide_eq_true_eq] at hc
    obtain ⟨⟨hown, hlen⟩, hck⟩ := hc
    refine f n σ H w ρ it ρ1 _ ok e1 fun J H1 w1 ok1 st1 c1 io => ?_
    intro D hD
    have ok2 : Ok X.K (upd H1 D (.lst [])) (w1.put D (.tm n)) σ ρ1 := ok1.new hD _
    have st2 : Step n H1 w1 (upd H1 D (.lst [])) (w1.put D (.tm n)) := Step.new hD
    refine ⟨fun i m H2 => m = it.items.length - i ∧ i ≤ it.items.length ∧ ∃ w2 ρ3 acc accV rest, Ok X.K H2 w2 (L2.wipe σ vs) ρ3 ∧ Step n H1 w1 H2 w2 ∧ chkOk it ρ3 = true ∧ loopC it g tt me vs (it.items.drop i) ρ3 = .ok (rest, ρ2) ∧
        acc ++ rest = total ∧ acc.length ≤ i ∧ H2 D = some (.lst accV) ∧ w2 D = .tm n ∧ FzL X.K H2 w2 acc accV,
      ⟨_, rfl, Nat.zero_le _, _, _, [], [], total, ok2.wipe vs, st2, hck, e2, rfl, Nat.le_refl _, upd_same, OM.put_same, .nil⟩, ?_⟩
    rintro i m H2 ⟨rfl, hle, w2, ρ3, acc, accV, rest, ok3, st3, ck3, e3, et, hla, hDa, hwD, fa⟩
    obtain ⟨go, stop⟩ := io H2 w2 (L2.wipe σ vs) ρ3 i ok3 (st3.mono (Nat.zero_le n)) (fun j hj => by
      unfold chkOk at ck3
      rw [hj] at ck3
      dsimp only at ck3
      split at ck3
      · rename_i c hc
        obtain ⟨v, ev, _⟩ := ok3.slot j c hc
        rw [ev]
        exact (wipe_some ev).1.symm
      · cases ck3) ck3
    by_cases hlt : i < it.items.length
    · obtain ⟨hgo, hy⟩ := go _ (List.getElem?_eq_getElem hlt)
      rw [List.drop_eq_getElem_cons hlt] at e3
      obtain ⟨ρa, ea, e3⟩ := R.of_bind e3
      obtain ⟨⟨b, ρb⟩, eb, e3⟩ := R.of_bind e3
      refine .inr ⟨hgo, fun H4 => ∃ w4 ρ4 acc accV rest, Ok X.K H4 w4 (L2.wipe σ vs) ρ4 ∧ Step n H1 w1 H4 w4 ∧ chkOk it ρ4 = true ∧ loopC it g tt me vs (it.items.drop (i + 1)) ρ4 = .ok (rest, ρ2) ∧
        acc ++ rest = total ∧ acc.length ≤ i + 1 ∧ H4 D = some (.lst accV) ∧ w4 D = .tm n ∧ FzL X.K H4 w4 acc accV, ?_, ?_⟩
      · rintro H4 h4
        exact ⟨it.items.length - (i + 1), by omega, rfl, hlt, h4⟩
      · intro x H3 y
        obtain ⟨w3, ok3f, st3f, fz⟩ := hy x H3 y
        have ok4 := ok3f _ _ ok3
        refine ⟨w3, ρ3, [], _, ρa, ok4, fz, ea, fun σ2 ok5 n5 a5 _ => ?_⟩
        have hwp : L2.wipe σ2 vs = L2.wipe σ vs := wipe_eq (by rw [n5, wipe_length]) fun j hj => a5 j fun z => hj (hsl j z)
        refine ⟨hwp, n + 1, w3, ρa, b, ρb, ok5, eb, fun H5 w5 ok6 st6 => ?_⟩
        have D3 := st3f (n + 1) D _ hDa (by rw [hwD]; exact .inr (.inr ⟨n, Nat.lt_succ_self n, rfl⟩))
        have hw3 : w3 D = .tm n := D3.2.trans hwD
        have D5 := st6 D _ D3.1 (by rw [hw3]; exact .inr (.inr ⟨n, Nat.lt_succ_self n, rfl⟩))
        have hw5 : w5 D = .tm n := D5.2.trans hw3
        have fa3 := (st3f 0).kp (o := .no) (.inl rfl)
        have fa5 : FzL X.K H5 w5 acc accV := (fa.step fa3).step (st6.kp (o := .no) (.inl rfl))
        have st5 : Step n H1 w1 H5 w5 := (st3.trans (st3f n)).trans (st6.mono (Nat.le_succ n))
        cases b with
        | false =>
          have e3 : (if chkOk it (wipeE ρb vs) = true then loopC it g tt me vs (it.items.drop (i + 1)) (wipeE ρb vs) else R.bad) = .ok (rest, ρ2) := e3
          split at e3
          · exact iteF ⟨w5, wipeE ρb vs, acc, accV, rest, ok6.wipe2 hwp, st5, by assumption, e3, et, by omega, D5.1, hw5, fa5⟩
          · cases e3
        | true =>
          obtain ⟨⟨s1, ρc⟩, ec, e3⟩ := R.of_bind (show (me ρb >>= _) = _ from e3)
          obtain ⟨⟨c, ρd⟩, ed, e3⟩ := R.of_bind e3
          dsimp only at e3
          split at e3
          · rename_i hck2
            obtain ⟨⟨rest2, ρe⟩, er, e3⟩ := R.of_bind e3
            cases e3
            refine iteT ⟨n + 1, w5, ρb, s1, ρc, ok6, ec, fun v H6 w6 ok7 st7 sa => ?_⟩
            obtain ⟨w7, ok8, st8, ow, kp8⟩ := esc_ok ok7 sa ed
            have D6 := st7 D _ D5.1 (by rw [hw5]; exact .inr (.inr ⟨n, Nat.lt_succ_self n, rfl⟩))
            have hw6 : w6 D = .tm n := D6.2.trans hw5
            have D7 := st8 (n + 1) D _ D6.1 (by rw [hw6]; exact .inr (.inr ⟨n, Nat.lt_succ_self n, rfl⟩))
            have hw7 : w7 D = .tm n := D7.2.trans hw6
            have hw8 : (w7.re (.tm (n + 1)) .no) D = .tm n := by rw [OM.re_ne (by rw [hw7]; intro z; cases z)]; exact hw7
            have ok9 : Ok X.K H6 (w7.re (.tm (n + 1)) .no) σ2 ρd := ok8.re (by intro z; cases z) (by intro i z; cases z)
            have fz9 : Fz X.K H6 (w7.re (.tm (n + 1)) .no) c.d v := ow.freeze (by intro z; cases z)
            have st9 : Step (n + 1) H5 w5 H6 (w7.re (.tm (n + 1)) .no) := (st7.trans (st8 _)).trans (Step.re not_fixed_tm)
            have fa9 : FzL X.K H6 (w7.re (.tm (n + 1)) .no) acc accV := fa5.step (st9.kp (o := .no) (.inl rfl))
            have hla9 : accV.length = acc.length := fa9.length.symm
            have kpw : Kp .no H6 (w7.re (.tm (n + 1)) .no) (upd H6 D (.lst (accV ++ [v]))) (w7.re (.tm (n + 1)) .no) := Kp.write (by rw [hw8]; intro z; cases z) (by rw [hw8]; intro z; cases z)
            refine ⟨accV, D6.1, by rw [sizeLine_eq, hla9]; omega, w7.re (.tm (n + 1)) .no, wipeE ρd vs, acc ++ [c.d], accV ++ [v], rest2, ?_, ?_, hck2, er, ?_, ?_, upd_same, hw8, ?_⟩
            · exact (ok9.write hw8).wipe2 hwp
            · exact (st5.trans (st9.mono (Nat.le_succ n))).trans (Step.write (by rw [hw8]; exact not_fixed_tm))
            · rw [List.append_assoc]; exact et
            · rw [List.length_append]; simp; omega
            · exact (fa9.append (.cons fz9 .nil)).step kpw
          · cases e3
    · have e : i = it.items.length := by omega
      subst e
      rw [List.drop_length] at e3
      cases e3
      rw [List.append_nil] at et
      subst et
      refine .inl ⟨stop (Nat.le_refl _), k (.ref D) H2 w2 ?_ (st1.trans st3) (.lst hDa hwD fa)⟩
      refine ⟨by rw [restore_length, ← ok3.len, wipe_length], fun i c h => ?_, ok3.live⟩
      rcases restore_get h with ⟨h1, h2⟩ | ⟨h1, h2⟩
      · obtain ⟨v, ev, q⟩ := ok3.slot i c h2
        exact ⟨v, (wipe_some ev).1, q⟩
      · obtain ⟨v, ev, q⟩ := ok1.slot i c h2
        have hk : c.k = 0 := by
          have := List.all_eq_true.mp hown i h1
          rw [h2] at this
          exact of_decide_eq_true this
        rw [hk] at q ⊢
        refine ⟨v, ev, ?_⟩
        cases q with
        | fz q => exact .fz (st3.fz q)
  · cases hm
theorem sa_lc {elt tg iter : Expr} {ifs : List Expr} {scope : Scope} {own : List (Str × Nat)} {pos : Pos} {mi : MI} {g : MG} {tt : MT} {me : AE} {sl vs : List Nat} (hc : X.calm = true) (hN : X.N.Nodup) (hi : SI X tg iter mi) (ok : BlkOk X.N X.env.scope scope own) (hv : own.map (·.2) = vs)
    (hg : ∀ (s : Shared) (H : Hp) (C : Addr) (cl : List (Str × Addr)) (fp : List Addr), SG (X.blk s H scope (compEnvC scope cl C X.env) fp) tg sl g) (ht : ∀ (s : Shared) (H : Hp) (C : Addr) (cl : List (Str × Addr)) (fp : List Addr), STs (X.blk s H scope (compEnvC scope cl C X.env) fp) ifs tt)
    (he : ∀ (s : Shared) (H : Hp) (C : Addr) (cl : List (Str × Addr)) (fp : List Addr), SA (X.blk s H scope (compEnvC scope cl C X.env) fp) elt me) (hsl : ∀ i ∈ sl, i ∈ vs := by decide) (hs : ∀ x, foldedSetIterable iter X.env x = pure x := by intro _; rfl) :
    SA X (.ListComp elt [⟨tg, iter, ifs, 0⟩] scope pos) (mComp mi g tt me vs) := by
  subst hv
  obtain ⟨wi, p, f⟩ := hi.ex
  exact ⟨_, pe_lc hc hN p ok (fun s H C cl fp => (hg s H C cl fp).rd) (fun s H C cl fp => (ht s H C cl fp).rd) (fun s H C cl fp => (he s H C cl fp).rd) hs, lc_sem (X := X) (tg := tg) hsl f⟩
/-- y = [..] on one line, y a local -/
theorem ss_setLc {i : Nat} {y : Str} {py : Pos} {elt tg iter : Expr} {ifs : List Expr} {scope : Scope} {own : List (Str × Nat)} {pos spos : Pos} {mi : MI} {g : MG} {tt : MT} {me : AE} {sl vs : List Nat} (hc : X.calm = true) (hN : X.N.Nodup) (hi : SI X tg iter mi) (ok : BlkOk X.N X.env.scope scope own) (hv : own.map (·.2) = vs)
    (hg : ∀ (s : Shared) (H : Hp) (C : Addr) (cl : List (Str × Addr)) (fp : List Addr), SG (X.blk s H scope (compEnvC scope cl C X.env) fp) tg sl g) (ht : ∀ (s : Shared) (H : Hp) (C : Addr) (cl : List (Str × Addr)) (fp : List Addr), STs (X.blk s H scope (compEnvC scope cl C X.env) fp) ifs tt)
    (he : ∀ (s : Shared) (H : Hp) (C : Addr) (cl : List (Str × Addr)) (fp : List Addr), SA (X.blk s H scope (compEnvC scope cl C X.env) fp) elt me) (hsl : ∀ i ∈ sl, i ∈ vs := by decide)
    (hy : X.N[i]? = some y := by rfl) (hyl : X.env.scope.names.lookup y = some .local := by rfl) (hsw : swapsWith (.ListComp elt [⟨tg, iter, ifs, 0⟩] scope pos) (some (.Name y py)) spos.line X.env = pure true := by exact sw_true rfl rfl rfl (by decide +kernel)) (hs : ∀ x, foldedSetIterable iter X.env x = pure x := by intro _; rfl) :
    SS X (.Assign [.Name y py] (.ListComp elt [⟨tg, iter, ifs, 0⟩] scope pos) spos) (mSet i (mComp mi g tt me vs)) := by
  subst hv
  obtain ⟨wi, p, f⟩ := hi.ex
  exact ⟨_, ps_setLc hc hN hy hyl hsw p ok (fun s H C cl fp => (hg s H C cl fp).rd) (fun s H C cl fp => (ht s H C cl fp).rd) (fun s H C cl fp => (he s H C cl fp).rd) hs, mSet_core (lc_sem (X := X) (tg := tg) hsl f)⟩
end
end Z

/-! Z: defs that are called while no repr is under way. -/
namespace Z
open PySem PySem.Spec PyProof.Rows L2
structure RoomG (k : Nat) (A : Around) : Prop where
  r : Room k A
  g : A.guards = some []
theorem RoomG.mono {j k : Nat} {A : Around} (h : RoomG k A) (l : j ≤ k) : RoomG j A := ⟨h.r.mono l, h.g⟩
theorem RoomG.deeper {k : Nat} {A : Around} (h : RoomG (k + 1) A) (e : PySem.Env) : RoomG k (A.deeper e) := ⟨h.r.deeper e, h.g⟩
structure FnOkG (P : Program) (W : World) (K : PySem.W.Frag) (mg : Str → Option Value) (base : Heap) (C : CXT) (lv : Nat) (fa : Addr) (fd : FuncData) (pn : List Str) (sp : Sp) : Prop where
  cnt : ∀ xs G Q E, sp xs G Q E → xs.length = pn.length
  go : ∀ (A : Around) (o : List PySem.Env) (t : Shared) (G : Hp) (ar : Args) (us : List Value) (xs : List V) (Q : VK) (E : XK), RoomG lv A → Env0 P W K mg base A o t G → BindsTo t fd ar (pn.zip us) → Vals xs us → sp xs G Q E →
    codeAny (model P W) A (.call (.ref fa) ar) (CR C o P W G t Q E) t
section
variable {P : Program} {W : World} {K : PySem.W.Frag} {mg : Str → Option Value} {base : Heap} {C : CXT} {lv : Nat} {fa : Addr} {fd : FuncData} {N pn : List Str} {sp : Sp} {x qual : Str} {pa : Arguments} {bd : List Stmt} {sc : Scope} {dvs : List V} {kws : List (Str × V)}
/-- a def by its body -/
theorem FunD.okG (F : FunD K x qual pa bd sc dvs kws fa fd) (S : FnScope N pn sc) (cnt : ∀ xs G Q E, sp xs G Q E → xs.length = pn.length)
    (body : ∀ (cv : Value) (A : Around) (o : List PySem.Env) (t : Shared) (G : Hp) (xs : List V) (Q : VK) (E : XK), RoomG lv (A.deeper (envOfC qual sc t.heap.objs.size fa cv)) → sp xs G Q E →
      ∃ rd, PSs (cxOf C P W K mg base N qual sc fa cv A o t G E) bd rd ∧ rd { nx := fun _ G' => Q .non G', rt := Q } (start N xs) G) : FnOkG P W K mg base C (lv + 1) fa fd pn sp := by
  obtain ⟨c0, d0, v1, v2, v3, v4, a0, cv, v5, sl, rfl, at_, code, _⟩ := F.ex
  constructor
  · exact cnt
  intro A o t G ar us xs Q E room en bi va pr
  have ln := cnt _ _ _ _ pr
  have old : ∀ b ob, base.get? b = some ob → t.heap.get? b = some ob := fun b ob z => (en.bs b ob z).1
  have inK : K.In t.heap := en.mod.kin.keeps old
  have noLim : t.heap.NoLimit := en.mod.nolimit.keeps old
  have slots : ∀ y ∈ pn.zip us, sc.names.lookup y.1 = some .local ∨ (sc.names.lookup y.1 = some .cell ∧ ((cellsFrom (t.heap.objs.size + 1) sc.names []).lookup y.1).isSome = true) := by
    rintro ⟨nm, u⟩ hy
    have hp := S.par nm (List.of_mem_zip hy).1
    exact hp.elim .inl fun z => .inr ⟨z, PySem.W.cellsFrom_some _ _ _ (.inl z)⟩
  refine codeAny_call_function room.r.depth (inK _ _ at_) rfl S.co S.gen rfl (PySem.W.codeRec_of inK code) (bi _ _ _ _ (wpAny_newFunctionEnv_cells S.kind slots fun env ee t1 ic => ?_))
  cases ee
  refine ⟨noLim.keeps ic.toInCall.keep, codeAny_func ?_⟩
  obtain ⟨rd, hp, hq⟩ := body cv A o t G xs Q E (room.deeper _) pr
  have out : ∀ {τ : L2.St} {G' : Hp} {v : V} {u : Value} {t2 : Shared}, Inv (cxOf C P W K mg base N qual sc fa cv A o t G E) [] τ G' t2 → RelV v u → Q v G' → CE o P W G t Q u t2 :=
    fun {τ G' v u t2} J rv q => ⟨v, G', J.os, J.bare, J.base, J.hok, rv, q⟩
  have st := inv_start (CX := C) (E := E) S room.r.hd en ln va ic
  refine wpAny_mono (hp.run [] t1 (start N xs) G _ st hq) ?_ fun e t2 z => z
  rintro (_ | _ | _ | u) t2 z
  · obtain ⟨τ, G', J, q⟩ := z
    exact out (v := .non) (u := .none) J rfl q
  · exact (let ⟨_, _, _, z⟩ := z; z : False).elim
  · exact (let ⟨_, _, _, z⟩ := z; z : False).elim
  · obtain ⟨v, τ, G', J, rv, q⟩ := z
    exact out J rv q
end
section
variable {X : Cx} {C : CXT} {lv : Nat} {fa : Addr} {fd : FuncData} {pn ks : List Str} {sp : Sp} {E : XK} {x : Str} {p pos : Pos}
theorem goG {pins : List (Addr × Obj)} {τ : L2.St} {G : Hp} {t : Shared} {Q : VK} {ar : Args} {us : List Value} {xs : List V} (F : FnOkG X.prog X.w X.K X.mg X.base C lv fa fd pn sp) (hr : RoomG lv X.A) (hx : Passes C X E)
    (I : Inv X pins τ G t) (bi : BindsTo t fd ar (pn.zip us)) (va : Vals xs us) (pr : sp xs G Q E) : codeAny (model X.prog X.w) X.A (.call (.ref fa) ar) (fun r t2 => match r with
      | .ok (.ret u) => EP X pins τ Q u t2
      | .ok _ => False
      | .error e => X.xe e t2) t :=
  codeAny_mono (F.go X.A X.stack t G ar us xs Q E hr I.env0 bi va pr) fun r t2 z => by
    match r, z with
    | .error e, z => exact hx pins τ G t e t2 I z
    | .ok (.ret u), z => exact I.after z
    | .ok .next, z => exact z.elim
    | .ok .brk, z => exact z.elim
    | .ok .cont, z => exact z.elim
theorem callG {pins : List (Addr × Obj)} {τ : L2.St} {G : Hp} {t : Shared} {Q : VK} {us : List Value} {xs : List V} (F : FnOkG X.prog X.w X.K X.mg X.base C lv fa fd pn sp) (hr : RoomG lv X.A) (hb : Binds X.K fd pn []) (hx : Passes C X E)
    (I : Inv X pins τ G t) (va : Vals xs us) (pr : sp xs G Q E) : wpAny (model X.prog X.w) X.A (call (.ref fa) us) (EP X pins τ Q) X.xe t := by
  have hl : (us ++ []).length = pn.length := by rw [List.append_nil, ← va.length]; exact F.cnt _ _ _ _ pr
  have bi := hb t us I.kIn hl
  rw [List.append_nil] at bi
  refine wpAny_call (codeAny_mono (goG F hr hx I bi va pr) fun r t2 z => ?_)
  match r, z with
  | .error e, z => exact z
  | .ok (.ret u), z => exact z
theorem pe_callG {e : Expr} {es : List Expr} {ta : TA} (F : FnOkG X.prog X.w X.K X.mg X.base C lv fa fd pn sp) (hr : RoomG lv X.A) (hg : Gl X x) (hm : X.mg x = some (.ref fa)) (hk : PySem.W.keepIn X.K (.ref fa) = true) (hb : Binds X.K fd pn []) (hx : Passes C X E) (ha : PA X (e :: es) ta)
    (hdb : (x == ("__debug__" : Str)) = false) (he : starEach (e :: es) X.env = (false, eval e X.env) :: starEach es X.env) (hpl : (backTo pos (starEach es X.env)).any (·.1) = false) :
    PE X (.Call (.Name x p) (e :: es) [] pos) (fun σ G Q => ta σ G fun vs G1 => sp vs G1 Q E) := by
  constructor
  intro pins t τ G Q I z
  exact wpAny_Call_Name_kw (ld_glob I hg hm (PySem.W.callWith_K (h₀ := X.base) I.ok.mod.kin hk (thn (ha.run pos pins t τ G _ I z) fun us t1 ⟨vs, G1, I1, rv, q⟩ => ⟨I1.kIn, callG F hr hb hx I1 rv q⟩) he hpl) hdb)
theorem pe_callG0 (F : FnOkG X.prog X.w X.K X.mg X.base C lv fa fd pn sp) (hr : RoomG lv X.A) (hg : Gl X x) (hm : X.mg x = some (.ref fa)) (hk : PySem.W.keepIn X.K (.ref fa) = true) (hb : Binds X.K fd pn []) (hx : Passes C X E)
    (hdb : (x == ("__debug__" : Str)) = false) : PE X (.Call (.Name x p) [] [] pos) (fun _ G Q => sp [] G Q E) := by
  constructor
  intro pins t τ G Q I z
  exact wpAny_Call_Name_kw (ld_glob I hg hm (PySem.W.callWith_K0 I.kIn hk (callG (us := []) F hr hb hx I .nil z)) hdb)
theorem callGk {pins : List (Addr × Obj)} {τ : L2.St} {G : Hp} {t : Shared} {Q : VK} {us ws : List Value} {vs zs : List V} {g : List Value → List Value → List Value} {gV : List V → List V → List V} (F : FnOkG X.prog X.w X.K X.mg X.base C lv fa fd pn sp) (hr : RoomG lv X.A) (hb : KBinds X.K fd pn ks g gV) (hx : Passes C X E)
    (I : Inv X pins τ G t) (rv : Vals vs us) (rz : Vals zs ws) (pr : sp (gV vs zs) G Q E) : wpAny (model X.prog X.w) X.A (call (.ref fa) us (ks.zip ws)) (EP X pins τ Q) X.xe t := by
  have r2 := hb.rel rv rz
  have hl : (g us ws).length = pn.length := by rw [← r2.length]; exact F.cnt _ _ _ _ pr
  refine wpAny_call (codeAny_mono (goG F hr hx I (hb.to t us ws I.kIn hl) r2 pr) fun r t2 z => ?_)
  match r, z with
  | .error e, z => exact z
  | .ok (.ret u), z => exact z
end
/-! ### the law is called -/
section
variable {P : Program} {W : World} {K : PySem.W.Frag} {mg mb : Str → Option Value} {C : CXT} {lv : Nat} {fa a : Addr} {fd : FuncData} {x : Str} {sp : Sp} {t : Shared} {us : List Value} {ns : List Int}
def LawEnd (t : Shared) (r : Result) (t2 : Shared) : Prop := r = .ok (.ret (.bool true)) ∧ OldK t.heap t2.heap ∧ t2.os = t.os ∧ AllBare t2.gens
theorem law_from {G : Hp} (KX : K.In t.heap) (hns : t.heap.Ns mainGlobals mg) (hb : t.heap.Ns builtinsNs mb) (hbb : ∀ x : Str, x ≠ "__name__" → mb x = bootBuiltins x) (hlim : t.heap.NoLimit) (hg : t.gens = #[])
    (ha : ∃ v n, t.heap.get? a = some { cls := .type "list", data := .seq v n }) (hr : Room lv callerA)
    (F : ∀ base : Heap, K.In base → base.Ns mainGlobals mg → FnOkG P W K mg base C lv fa fd [x] sp) (bi : ∀ (s : Shared) (u : Value), BindsTo s fd ⟨[u], []⟩ [(x, u)])
    (pr : sp [.ref a] G (fun v _ => v = .bl true) fun _ _ _ => False) (hC : ∀ e t2, C [] G t (fun _ _ _ => False) e t2 → False)
    (only : Only G) (hok : HOk P W G t.heap) (alone : ∀ b, G b ≠ none → b = a) (outK : G a ≠ none → K.lookup a = none) :
    codeAny (model P W) callerA (.call (.ref fa) ⟨[.ref a], []⟩) (LawEnd t) t := by
  obtain ⟨sv, sn, ha⟩ := ha
  have dictFree : ∀ {b : Addr} {ob : Obj} {es : Array DictEntry} {ep : Nat}, t.heap.get? b = some ob → ob.data = .dict es ep → G b = none := fun {b ob es ep} e d => Classical.byContradiction fun q => by
    cases alone b q
    cases ha.symm.trans e
    exact nomatch d
  have nsHid : ∀ {b : Addr} {m : Str → Option Value}, t.heap.Ns b m → (hidT t.heap G).Ns b m := fun {b m} ⟨ob, es, ep, e, d, z⟩ => ⟨ob, es, ep, hidT_get e (dictFree e d), d, z⟩
  have inHid : K.In (hidT t.heap G) := fun b ob e => hidT_get (KX b ob e) (Classical.byContradiction fun q => by
    cases alone b q
    exact nomatch (outK q).symm.trans e)
  have md : Mod K mg (hidT t.heap G) := ⟨inHid, nsHid hns, ⟨mb, nsHid hb, hbb⟩, hlim.elim fun mc z => ⟨mc, nsHid z.1, z.2⟩⟩
  have en : Env0 P W K mg (hidT t.heap G) callerA [] t G := ⟨rfl, md, fun _ _ e => of_hidT e, Nat.le_of_eq (hidT_size _ _), trivial, fun b z => (nomatch (show b ∈ ([] : List Addr) from z)), hok, .of_eq hg⟩
  refine codeAny_mono ((F _ inHid (nsHid hns)).go callerA [] t G _ [.ref a] [.ref a] _ _ ⟨hr, rfl⟩ en (bi t (.ref a)) (.cons rfl .nil) pr) fun r t2 z => ?_
  match r, z with
  | .error e, z => exact (hC e t2 z).elim
  | .ok .next, z => exact z.elim
  | .ok .brk, z => exact z.elim
  | .ok .cont, z => exact z.elim
  | .ok (.ret u), ⟨v, G2, os2, bare2, un, hok2, rv, q⟩ =>
    cases (show v = .bl true from q)
    cases (show u = Value.bool true from rv)
    refine ⟨rfl, OldK.of_keep fun b ob e => ?_, os2, bare2⟩
    cases q : G b with
    | none => exact un.keep b ob e q (fun z => (nomatch (show b ∈ ([] : List Addr) from z))) (fun z => (nomatch z))
    | some u =>
      rcases only b with z | ⟨o2, l2, z⟩
      · exact nomatch q.symm.trans z
      · have f1 := (hok b _ z).1
        have f2 := (hok2 b _ (un.frzs b o2 _ z)).1
        cases e.symm.trans f1
        exact f2
theorem law_callG (KX : K.In t.heap) (hns : t.heap.Ns mainGlobals mg) (hb : t.heap.Ns builtinsNs mb) (hbb : ∀ x : Str, x ≠ "__name__" → mb x = bootBuiltins x) (hlim : t.heap.NoLimit) (hg : t.gens = #[])
    (ha : t.heap.get? a = some { cls := .type "list", data := .seq us.toArray }) (hi : IntsAre us ns) (hl : ns.length ≤ sizeLine) (hr : Room lv callerA)
    (F : ∀ base : Heap, K.In base → base.Ns mainGlobals mg → FnOkG P W K mg base C lv fa fd [x] sp) (bi : ∀ (s : Shared) (u : Value), BindsTo s fd ⟨[u], []⟩ [(x, u)])
    (pr : ∀ G : Hp, Only G → SqL K G a (ns.map V.int) → sp [.ref a] G (fun v _ => v = .bl true) fun _ _ _ => False) (hC : ∀ G e t2, C [] G t (fun _ _ _ => False) e t2 → False) :
    codeAny (model P W) callerA (.call (.ref fa) ⟨[.ref a], []⟩) (LawEnd t) t := by
  have rv := vals_ints hi
  cases hk : K.lookup a with
  | some ob =>
    have e := KX a ob hk
    cases ha.symm.trans e
    have sq : SqL K (fun _ => none) a (ns.map V.int) := .inr ⟨_, us.toArray, _, hk, rfl, rfl, rfl, by rw [List.size_toArray, hi.length]; exact hl, by simpa using rv⟩
    exact law_from KX hns hb hbb hlim hg ⟨_, _, ha⟩ hr F bi (pr _ (fun _ => .inl rfl) sq) (hC _) (fun _ => .inl rfl) (fun _ _ z => (nomatch z)) (fun _ z => (z rfl).elim) fun z => (z rfl).elim
  | none =>
    let G : Hp := fun b => if b = a then some (.frz { cls := .type "list", data := .seq us.toArray } (.lst (ns.map V.int))) else none
    have at_ : G a = some (.frz { cls := .type "list", data := .seq us.toArray } (.lst (ns.map V.int))) := if_pos rfl
    have off : ∀ b, b ≠ a → G b = none := fun b z => if_neg z
    have only : Only G := fun b => if z : b = a then .inr ⟨_, _, if_pos z⟩ else .inl (off b z)
    have hok : HOk P W G t.heap := fun b u z => by
      by_cases q : b = a
      · subst q
        cases at_.symm.trans z
        exact ⟨ha, by rw [List.length_map]; exact hl, us, _, rv, ha⟩
      · exact nomatch (off b q).symm.trans z
    exact law_from KX hns hb hbb hlim hg ⟨_, _, ha⟩ hr F bi (pr G only (.inl (.inr ⟨_, at_⟩))) (hC _) only hok (fun b z => Classical.byContradiction fun q => z (off b q)) fun _ => hk
end
theorem walk_ofG {l : PySem.W.OpenLaw} {n lv : Nat} {q : Program} {loose : List Str} {XP : (Str → Option Value) → Heap → Prop} {YP : World → Heap → Prop} {d : DefRec} {C : CXT} {x : Str}
    (hn : l.most = some n) (hn2 : n ≤ sizeLine) (hdf : d.params.defaults = []) (hr : Room lv callerA)
    (F : ∀ (W : World) (mg : Str → Option Value) (fa : Addr) (h : Heap), YP W h → h.Ns mainGlobals mg → mg d.name = some (.ref fa) →
      ∃ (K : PySem.W.Frag) (fd : FuncData) (sp : Sp), K.In h ∧ (∀ (s : Shared) (u : Value), BindsTo s fd ⟨[u], []⟩ [(x, u)]) ∧
        (∀ (G : Hp) (a : Addr) (ns : List Int), ns.length ≤ n → Only G → SqL K G a (ns.map V.int) → sp [.ref a] G (fun v _ => v = .bl true) fun _ _ _ => False) ∧
        ∀ base : Heap, K.In base → base.Ns mainGlobals mg → FnOkG l.prog W K mg base C lv fa fd [x] sp)
    (hC : ∀ (G : Hp) (s : Shared) (e : Value) (s' : Shared), C [] G s (fun _ _ _ => False) e s' → False) :
    PySem.W.WalkO q loose XP YP l.row.toRowW d [] (fun f vs => PySem.call f vs) :=
  Att.attach_call hn hdf fun W s0 t mg mb fa o pm cd doc a us ns T Y ho hd hcd hmg hobj hints hlen hg => by
    obtain ⟨K, fd, sp, KX, bi, pr, fn⟩ := F W mg fa _ Y T.T.g hmg
    exact law_callG KX T.T.g T.T.b T.T.builtins T.T.nolimit hg hobj hints (Nat.le_trans hlen hn2) hr fn bi (fun G h1 h2 => pr G a ns hlen h1 h2) fun G e t2 => hC G t e t2
end Z

/-! Z: defs and their calls. -/
namespace Z
open PySem PySem.Spec PyProof.Rows L2

/-! ### a def -/
abbrev FD := List Cell → R (Cell × List Cell)
/-- the arguments that may be written: bound for good, looked at behind the call -/
def locks : Nat → List Cell → List Nat
  | _, [] => []
  | j, c :: r => if c.k = 0 then locks (j + 1) r else j :: locks (j + 1) r
def fins (ρ : Env) : Nat → List Cell → R (List Cell)
  | _, [] => .ok []
  | j, c :: r => do
    let fs ← fins ρ (j + 1) r
    if c.k = 0 then R.ok (c :: fs) else match ρ.get j with
      | some c' => R.ok (c' :: fs)
      | none => R.bad
def runDef (size : Nat) (m : MS) : FD := fun args => do
  let (fl, ρ) ← m (locks 0 args) (args.map some ++ List.replicate (size - args.length) none)
  let fs ← fins ρ 0 args
  match fl with
  | .ret c => R.ok (c, fs)
  | .next => R.ok (Cell.fz .non, fs)
  | _ => R.bad
/-- the j-th argument is the slot j's -/
def ArgsAt (K : PySem.W.Frag) (H : Hp) (w : OM) : Nat → List Cell → List V → Prop
  | _, [], [] => True
  | j, c :: cs, v :: vs => Ow K H w (.sl j) c.k c.d v ∧ ArgsAt K H w (j + 1) cs vs
  | _, _, _ => False
def FinAt (K : PySem.W.Frag) (H : Hp) (w : OM) : Nat → List Cell → List Cell → List V → Prop
  | _, [], [], [] => True
  | j, a :: as, c :: cs, v :: vs => (a.k ≠ 0 → Ow K H w (.sl j) c.k c.d v) ∧ FinAt K H w (j + 1) as cs vs
  | _, _, _, _ => False
def spD (K : PySem.W.Frag) (np : Nat) (f : FD) : Sp := fun vs H Q _ => ∃ (w : OM) (args : List Cell) (r : Cell) (fs : List Cell), args.length = np ∧ ArgsAt K H w 0 args vs ∧ (∀ a, w a ≠ .no → H a ≠ none) ∧ f args = .ok (r, fs) ∧
  ∀ v H' w', (∀ a, w' a ≠ .no → H' a ≠ none) → Step 0 H w H' w' → Ow K H' w' (.tm 0) r.k r.d v → FinAt K H' w' 0 args fs vs → Q v H'
section
variable {K : PySem.W.Frag} {H H' : Hp} {w w' : OM}
theorem ArgsAt.length : ∀ {cs : List Cell} {vs : List V} {j : Nat}, ArgsAt K H w j cs vs → cs.length = vs.length
  | [], [], _, _ => rfl
  | [], _ :: _, _, h => h.elim
  | _ :: _, [], _, h => h.elim
  | c :: cs, v :: vs, j, ⟨_, t⟩ => by rw [List.length_cons, List.length_cons, t.length]
theorem ArgsAt.get : ∀ {cs : List Cell} {vs : List V} {j i : Nat} {c : Cell}, ArgsAt K H w j cs vs → cs[i]? = some c → ∃ v, vs[i]? = some v ∧ Ow K H w (.sl (j + i)) c.k c.d v
  | [], [], _, _, _, _, e => by simp at e
  | [], _ :: _, _, _, _, h, _ => h.elim
  | _ :: _, [], _, _, _, h, _ => h.elim
  | c :: cs, v :: vs, j, 0, c', ⟨h, t⟩, e => by simp at e; subst e; exact ⟨v, rfl, h⟩
  | c :: cs, v :: vs, j, i + 1, c', ⟨h, t⟩, e => by
    obtain ⟨u, h1, h2⟩ := t.get (i := i) (c := c') (by simpa using e)
    exact ⟨u, by simpa using h1, by rw [show j + (i + 1) = j + 1 + i by omega]; exact h2⟩
theorem env_get_map : ∀ {cs : List Cell} {m i : Nat} {c : Cell}, Env.get (cs.map some ++ List.replicate m none) i = some c → cs[i]? = some c
  | [], 0, i, c, h => by cases i <;> cases h
  | [], m + 1, 0, c, h => by cases h
  | [], m + 1, i + 1, c, h => by
    have := env_get_map (cs := []) (m := m) (i := i) (c := c) h
    simp at this
  | a :: cs, m, 0, c, h => by cases h; rfl
  | a :: cs, m, i + 1, c, h => by simpa using env_get_map (cs := cs) (m := m) (i := i) (c := c) h
theorem locks_mem : ∀ {cs : List Cell} {j i : Nat} {c : Cell}, cs[i]? = some c → c.k ≠ 0 → j + i ∈ locks j cs
  | [], _, _, _, e, _ => by simp at e
  | a :: cs, j, 0, c, e, h => by
    simp at e; subst e
    unfold locks
    rw [if_neg h]
    exact List.mem_cons_self ..
  | a :: cs, j, i + 1, c, e, h => by
    have := locks_mem (j := j + 1) (i := i) (c := c) (by simpa using e) h
    rw [show j + (i + 1) = j + 1 + i by omega]
    unfold locks
    split
    · exact this
    · exact List.mem_cons_of_mem _ this
theorem fins_ok {σ σ' : L2.St} {ρ : Env} (ok : Ok K H w σ' ρ) : ∀ {args : List Cell} {vs : List V} {fs : List Cell} {j : Nat}, args.length = vs.length → fins ρ j args = .ok fs → (∀ i v, vs[i]? = some v → σ[j + i]? = some (some v)) →
    (∀ i c, args[i]? = some c → c.k ≠ 0 → σ'[j + i]? = σ[j + i]?) → FinAt K H w j args fs vs
  | [], [], fs, j, _, e, _, _ => by cases e; trivial
  | [], _ :: _, _, _, h, _, _, _ => by simp at h
  | _ :: _, [], _, _, h, _, _, _ => by simp at h
  | a :: as, v :: vs, fs, j, hl, e, hv, hs => by
    obtain ⟨fs', e1, e⟩ := R.of_bind e
    have ih := fins_ok (σ := σ) ok (by simpa using hl) e1 (fun i u hu => by rw [show j + 1 + i = j + (i + 1) by omega]; exact hv (i + 1) u (by simpa using hu)) (fun i c hc hk => by rw [show j + 1 + i = j + (i + 1) by omega]; exact hs (i + 1) c (by simpa using hc) hk)
    split at e
    · cases e
      exact ⟨fun z => absurd (by assumption) z, ih⟩
    · rename_i hk
      split at e
      · rename_i c' hc'
        cases e
        refine ⟨fun _ => ?_, ih⟩
        obtain ⟨u, hu, ow⟩ := ok.slot j c' hc'
        have h0 := hs 0 a rfl hk
        have h1 := hv 0 v rfl
        rw [Nat.add_zero] at h0 h1
        rw [h0, h1] at hu
        cases hu
        exact ow
      · cases e
end
/-! ### a call -/
/-- the arguments as a callee takes them; the slots that it may write, once each -/
def args (ρ : Env) : List Src → R (List Cell)
  | [] => .ok []
  | s :: ss => do
    let cs ← args ρ ss
    match s.cell ρ with
    | some c => R.ok (c :: cs)
    | none => R.bad
def ioSlots (ρ : Env) : List Src → List Nat
  | [] => []
  | .s i :: ss => match ρ.get i with
    | some ⟨_, 0⟩ => ioSlots ρ ss
    | _ => i :: ioSlots ρ ss
  | .v _ :: ss => ioSlots ρ ss
def back (ρ0 : Env) : List Src → List Cell → Env → Env
  | .s i :: ss, c :: cs, ρ => match ρ0.get i with
    | some ⟨_, 0⟩ => back ρ0 ss cs ρ
    | _ => back ρ0 ss cs (ρ.set i (some c))
  | .v _ :: ss, _ :: cs, ρ => back ρ0 ss cs ρ
  | _, _, ρ => ρ
def dupF : List Nat → Bool
  | [] => true
  | i :: r => !r.contains i && dupF r
def mCall (f : FD) (ms : List AE) : AE := fun ρ => do
  let (ss, ρ1) ← evs ms ρ
  let cs ← args ρ1 ss
  if dupF (ioSlots ρ1 ss) then do
    let (r, fs) ← f cs
    R.ok (.v r, back ρ1 ss fs ρ1)
  else R.bad
/-- one label for another -/
theorem Fz.map {K : PySem.W.Frag} {H : Hp} {w w' : OM} {d : D} {v : V} (h : Fz K H w d v) (h0 : ∀ a, w a = .no → w' a = .no) : Fz K H w' d v :=
  h.step (o := .no) fun a x e z => ⟨e, by rcases z with z | z <;> rw [z, h0 a z]⟩
theorem FzL.map {K : PySem.W.Frag} {H : Hp} {w w' : OM} {ds : List D} {vs : List V} (h : FzL K H w ds vs) (h0 : ∀ a, w a = .no → w' a = .no) : FzL K H w' ds vs :=
  h.step (o := .no) fun a x e z => ⟨e, by rcases z with z | z <;> rw [z, h0 a z]⟩
theorem Ow1L.map {K : PySem.W.Frag} {H : Hp} {w w' : OM} {o o' : Own} (h0 : ∀ a, w a = .no → w' a = .no) (h1 : ∀ a, w a = o → w' a = o') : ∀ {ds : List D} {vs : List V}, Ow1L K H w o ds vs → Ow1L K H w' o' ds vs
  | _, _, .nil => .nil
  | _, _, .cons h n t r => .cons h (h1 _ n) (t.map h0) (Ow1L.map h0 h1 r)
theorem Ow.map {K : PySem.W.Frag} {H : Hp} {w w' : OM} {o o' : Own} {k : Nat} {d : D} {v : V} (h : Ow K H w o k d v) (h0 : ∀ a, w a = .no → w' a = .no) (h1 : ∀ a, w a = o → w' a = o') : Ow K H w' o' k d v := by
  cases h with
  | fz h => exact .fz (h.map h0)
  | lst h n t => exact .lst h (h1 _ n) (t.map h0)
  | dct h n e t => exact .dct h (h1 _ n) e (t.map h0)
  | lst2 h n t nd => exact .lst2 h (h1 _ n) (t.map h0 h1) nd
/-- the caller's labels as the callee has them -/
def lab (ρ : Env) : Nat → Nat → List Src → Own → Own
  | _, _, [], o => if o = .no then .no else .out
  | n, j, .v _ :: ss, o => if o = .tm n then .sl j else lab ρ (n + 1) (j + 1) ss o
  | n, j, .s i :: ss, o => match ρ.get i with
    | some ⟨_, 0⟩ => lab ρ (n + 1) (j + 1) ss o
    | _ => if o = .sl i then .sl j else lab ρ (n + 1) (j + 1) ss o
/-- .. and back -/
def unl (ρ : Env) (n : Nat) : Nat → List Src → Own → Own
  | _, [], o => if o = .tm 0 then .tm n else .no
  | j, .v _ :: ss, o => unl ρ n (j + 1) ss o
  | j, .s i :: ss, o => match ρ.get i with
    | some ⟨_, 0⟩ => unl ρ n (j + 1) ss o
    | _ => if o = .sl j then .sl i else unl ρ n (j + 1) ss o
theorem lab_no {ρ : Env} : ∀ {ss : List Src} {n j : Nat}, lab ρ n j ss .no = .no
  | [], _, _ => rfl
  | .v _ :: ss, n, j => by unfold lab; rw [if_neg (by intro z; cases z)]; exact lab_no
  | .s i :: ss, n, j => by
    unfold lab
    split
    · exact lab_no
    · rw [if_neg (by intro z; cases z)]; exact lab_no
theorem lab_out {ρ : Env} {o : Own} : ∀ {ss : List Src} {n j : Nat}, o ≠ .no → (∀ m, n ≤ m → o ≠ .tm m) → (∀ i, i ∈ ioSlots ρ ss → o ≠ .sl i) → lab ρ n j ss o = .out
  | [], _, _, h, _, _ => by unfold lab; rw [if_neg h]
  | .v _ :: ss, n, j, h, ht, hs => by
    unfold lab
    rw [if_neg (ht n (Nat.le_refl n))]
    exact lab_out h (fun m hm => ht m (by omega)) hs
  | .s i :: ss, n, j, h, ht, hs => by
    unfold lab
    split
    · rename_i hc
      refine lab_out h (fun m hm => ht m (by omega)) fun i' hi' => hs i' ?_
      unfold ioSlots
      rw [hc]; exact hi'
    · rename_i hc
      have e : ioSlots ρ (.s i :: ss) = i :: ioSlots ρ ss := by
        rw [ioSlots]
        split
        · rename_i q; exact absurd q (hc _)
        · rfl
      rw [e] at hs
      rw [if_neg (hs i (List.mem_cons_self ..))]
      exact lab_out h (fun m hm => ht m (by omega)) fun i' hi' => hs i' (List.mem_cons_of_mem _ hi')
theorem unl_no {ρ : Env} {n : Nat} : ∀ {ss : List Src} {j : Nat}, unl ρ n j ss .no = .no
  | [], _ => by unfold unl; rw [if_neg (by intro z; cases z)]
  | .v _ :: ss, j => by unfold unl; exact unl_no
  | .s i :: ss, j => by
    unfold unl
    split
    · exact unl_no
    · rw [if_neg (by intro z; cases z)]; exact unl_no
theorem unl_tm {ρ : Env} {n : Nat} : ∀ {ss : List Src} {j : Nat}, unl ρ n j ss (.tm 0) = .tm n
  | [], _ => by unfold unl; rw [if_pos rfl]
  | .v _ :: ss, j => by unfold unl; exact unl_tm
  | .s i :: ss, j => by
    unfold unl
    split
    · exact unl_tm
    · rw [if_neg (by intro z; cases z)]; exact unl_tm
/-- the arguments are the callee's -/
theorem args_at {K : PySem.W.Frag} {H : Hp} {w wc : OM} {σ : L2.St} {ρ : Env} (ok : Ok K H w σ ρ) (h0 : ∀ a, w a = .no → wc a = .no) : ∀ {ss : List Src} {vs : List V} {cs : List Cell} {n j : Nat}, SrcsAt K H w σ n ss vs → args ρ ss = .ok cs → dupF (ioSlots ρ ss) = true →
    (∀ a, (∀ m, n ≤ m → w a = .tm m → wc a = lab ρ n j ss (w a)) ∧ (∀ i, i ∈ ioSlots ρ ss → w a = .sl i → wc a = lab ρ n j ss (w a))) → ArgsAt K H wc j cs vs
  | [], [], cs, n, j, _, e, _, _ => by cases e; trivial
  | [], _ :: _, _, _, _, h, _, _, _ => h.elim
  | _ :: _, [], _, _, _, h, _, _, _ => h.elim
  | s :: ss, v :: vs, cs, n, j, ⟨h, t⟩, e, du, hl => by
    obtain ⟨cs', e1, e⟩ := R.of_bind e
    split at e
    · rename_i c hc
      cases e
      cases s with
      | v c' =>
        cases (show some c' = some c from hc)
        have du' : dupF (ioSlots ρ ss) = true := du
        refine ⟨?_, args_at ok h0 t e1 du' fun a => ⟨fun m hm ha => ?_, fun i hi ha => ?_⟩⟩
        · have h : Ow K H w (.tm n) c.k c.d v := h
          refine h.map h0 fun a ha => ?_
          rw [(hl a).1 n (Nat.le_refl n) ha, ha, lab, if_pos rfl]
        · rw [(hl a).1 m (by omega) ha, ha, lab, if_neg (by intro z; cases z; omega)]
        · rw [(hl a).2 i hi ha, ha, lab, if_neg (by intro z; cases z)]
      | s i =>
        have hc : ρ.get i = some c := hc
        have h : σ[i]? = some (some v) := h
        obtain ⟨u, hu, ow⟩ := ok.slot i c hc
        rw [h] at hu
        cases hu
        by_cases hk : c.k = 0
        · have eio : ioSlots ρ (.s i :: ss) = ioSlots ρ ss := by
            obtain ⟨d, k⟩ := c
            cases hk
            simp only [ioSlots, hc]
          have ela : ∀ o, lab ρ n j (.s i :: ss) o = lab ρ (n + 1) (j + 1) ss o := fun o => by
            obtain ⟨d, k⟩ := c
            cases hk
            simp only [lab, hc]
          rw [eio] at du
          refine ⟨?_, args_at ok h0 t e1 du fun a => ⟨fun m hm ha => ?_, fun i' hi ha => ?_⟩⟩
          · rw [hk] at ow ⊢
            cases ow with
            | fz ow => exact .fz (ow.map h0)
          · rw [(hl a).1 m (by omega) ha, ha, ela]
          · rw [(hl a).2 i' (by rw [eio]; exact hi) ha, ha, ela]
        · have nk : ∀ d, ρ.get i ≠ some ⟨d, 0⟩ := fun d z => by rw [hc] at z; cases z; exact hk rfl
          have eio : ioSlots ρ (.s i :: ss) = i :: ioSlots ρ ss := by
            rw [ioSlots]
            split
            · rename_i q; exact absurd q (nk _)
            · rfl
          have ela : ∀ o, lab ρ n j (.s i :: ss) o = if o = .sl i then .sl j else lab ρ (n + 1) (j + 1) ss o := fun o => by
            rw [lab]
            split
            · rename_i q; exact absurd q (nk _)
            · rfl
          rw [eio] at du hl
          unfold dupF at du
          rw [Bool.and_eq_true] at du
          refine ⟨?_, args_at ok h0 t e1 du.2 fun a => ⟨fun m hm ha => ?_, fun i' hi ha => ?_⟩⟩
          · refine ow.map h0 fun a ha => ?_
            rw [(hl a).2 i (List.mem_cons_self ..) ha, ha, ela, if_pos rfl]
          · rw [(hl a).1 m (by omega) ha, ha, ela, if_neg (by intro z; cases z)]
          · rw [(hl a).2 i' (List.mem_cons_of_mem _ hi) ha, ha, ela, if_neg]
            intro z
            have z : i' = i := by injection z
            subst z
            have : (ioSlots ρ ss).contains i' = true := by simpa using hi
            rw [this] at du
            exact absurd du.1 (by decide)
    · cases e
/-- behind the call: each slot as it was, or what the callee left -/
theorem back_get {K : PySem.W.Frag} {H H2 : Hp} {w wc' : OM} {σ : L2.St} {ρ0 : Env} : ∀ {ss : List Src} {vs : List V} {cs fs : List Cell} {n j : Nat} {ρ : Env} {i : Nat} {c : Cell}, SrcsAt K H w σ n ss vs → args ρ0 ss = .ok cs → FinAt K H2 wc' j cs fs vs →
    (back ρ0 ss fs ρ).get i = some c → (i ∉ ioSlots ρ0 ss ∧ ρ.get i = some c) ∨ ∃ j' v, σ[i]? = some (some v) ∧ Ow K H2 wc' (.sl j') c.k c.d v ∧ unl ρ0 n j ss (.sl j') = .sl i ∧ j ≤ j'
  | [], [], cs, fs, n, j, ρ, i, c, _, e, hf, hb => by
    cases e
    cases fs with
    | nil => exact .inl ⟨by simp [ioSlots], hb⟩
    | cons _ _ => exact hf.elim
  | [], _ :: _, _, _, _, _, _, _, _, h, _, _, _ => h.elim
  | _ :: _, [], _, _, _, _, _, _, _, h, _, _, _ => h.elim
  | s :: ss, v :: vs, cs, fs, n, j, ρ, i, c, ⟨h, t⟩, e, hf, hb => by
    obtain ⟨cs', e1, e⟩ := R.of_bind e
    split at e
    · rename_i c0 hc0
      cases e
      cases fs with
      | nil => exact hf.elim
      | cons f fs =>
        obtain ⟨hf1, hf2⟩ := hf
        cases s with
        | v c' =>
          rcases back_get t e1 hf2 hb with z | ⟨j', u, a1, a2, a3, a4⟩
          · exact .inl z
          · refine .inr ⟨j', u, a1, a2, ?_, by omega⟩
            have : unl ρ0 (n + 1) (j + 1) ss (.sl j') = .sl i := a3
            have gen : ∀ (ss : List Src) (n m j : Nat) (k i : Nat), unl ρ0 n j ss (.sl k) = .sl i → unl ρ0 m j ss (.sl k) = .sl i := by
              intro ss
              induction ss with
              | nil => intro n m j k i z; unfold unl at z; rw [if_neg (by intro z; cases z)] at z; cases z
              | cons s ss ih =>
                intro n m j k i z
                cases s with
                | v _ => exact ih n m (j + 1) k i z
                | s i2 =>
                  unfold unl at z ⊢
                  split
                  · rename_i hq
                    rw [hq] at z
                    exact ih n m (j + 1) k i z
                  · rename_i hq
                    split at z
                    · rename_i q; exact absurd q (hq _)
                    · split at z
                      · rename_i q; rw [if_pos q]; exact z
                      · rename_i q; rw [if_neg q]; exact ih n m (j + 1) k i z
            exact gen ss (n + 1) n (j + 1) j' i a3
        | s i0 =>
          have gen : ∀ (ss : List Src) (n m j : Nat) (k i : Nat), unl ρ0 n j ss (.sl k) = .sl i → unl ρ0 m j ss (.sl k) = .sl i := by
            intro ss
            induction ss with
            | nil => intro n m j k i z; unfold unl at z; rw [if_neg (by intro z; cases z)] at z; cases z
            | cons s ss ih =>
              intro n m j k i z
              cases s with
              | v _ => exact ih n m (j + 1) k i z
              | s i2 =>
                unfold unl at z ⊢
                split
                · rename_i hq
                  rw [hq] at z
                  exact ih n m (j + 1) k i z
                · rename_i hq
                  split at z
                  · rename_i q; exact absurd q (hq _)
                  · split at z
                    · rename_i q; rw [if_pos q]; exact z
                    · rename_i q; rw [if_neg q]; exact ih n m (j + 1) k i z
          have hc0 : ρ0.get i0 = some c0 := hc0
          by_cases hk : c0.k = 0
          · have eio : ioSlots ρ0 (.s i0 :: ss) = ioSlots ρ0 ss := by
              obtain ⟨d, k⟩ := c0
              cases hk
              simp only [ioSlots, hc0]
            have eb : back ρ0 (.s i0 :: ss) (f :: fs) ρ = back ρ0 ss fs ρ := by
              obtain ⟨d, k⟩ := c0
              cases hk
              simp only [back, hc0]
            have eu : ∀ o, unl ρ0 n j (.s i0 :: ss) o = unl ρ0 n (j + 1) ss o := fun o => by
              obtain ⟨d, k⟩ := c0
              cases hk
              simp only [unl, hc0]
            rw [eb] at hb
            rw [eio]
            rcases back_get t e1 hf2 hb with z | ⟨j', u, a1, a2, a3, a4⟩
            · exact .inl z
            · exact .inr ⟨j', u, a1, a2, by rw [eu]; exact gen ss _ _ _ _ _ a3, by omega⟩
          · have nk : ∀ d, ρ0.get i0 ≠ some ⟨d, 0⟩ := fun d z => by rw [hc0] at z; cases z; exact hk rfl
            have eio : ioSlots ρ0 (.s i0 :: ss) = i0 :: ioSlots ρ0 ss := by
              rw [ioSlots]
              split
              · rename_i q; exact absurd q (nk _)
              · rfl
            have eb : back ρ0 (.s i0 :: ss) (f :: fs) ρ = back ρ0 ss fs (ρ.set i0 (some f)) := by
              rw [back]
              split
              · rename_i q; exact absurd q (nk _)
              · rfl
            have eu : ∀ o, unl ρ0 n j (.s i0 :: ss) o = if o = .sl j then .sl i0 else unl ρ0 n (j + 1) ss o := fun o => by
              rw [unl]
              split
              · rename_i q; exact absurd q (nk _)
              · rfl
            rw [eb] at hb
            rw [eio]
            rcases back_get t e1 hf2 hb with ⟨z1, z2⟩ | ⟨j', u, a1, a2, a3, a4⟩
            · rcases Env.get_set z2 with ⟨e3, e4⟩ | ⟨e3, e4⟩
              · subst e3
                cases e4
                exact .inr ⟨j, v, h, hf1 hk, by rw [eu, if_pos rfl], Nat.le_refl j⟩
              · exact .inl ⟨by simp [e3, z1], e4⟩
            · exact .inr ⟨j', u, a1, a2, by rw [eu, if_neg (by intro z; cases z; omega)]; exact gen ss _ _ _ _ _ a3, by omega⟩
    · cases e
theorem back_length {ρ0 : Env} : ∀ {ss : List Src} {fs : List Cell} {ρ : Env}, (back ρ0 ss fs ρ).length = ρ.length
  | [], _, _ => rfl
  | .v _ :: ss, [], _ => rfl
  | .s _ :: ss, [], _ => rfl
  | .v _ :: ss, _ :: fs, ρ => by rw [back]; exact back_length
  | .s i :: ss, c :: fs, ρ => by
    rw [back]
    split
    · exact back_length
    · rw [back_length, Env.length_set]
theorem mCall_ok {f : FD} {ms : List AE} {ρ ρ' : Env} {s : Src} (h : mCall f ms ρ = .ok (s, ρ')) : ∃ ss ρ1 cs r fs, evs ms ρ = .ok (ss, ρ1) ∧ args ρ1 ss = .ok cs ∧ dupF (ioSlots ρ1 ss) = true ∧ f cs = .ok (r, fs) ∧ s = .v r ∧ ρ' = back ρ1 ss fs ρ1 := by
  obtain ⟨⟨ss, ρ1⟩, e1, h⟩ := R.of_bind h
  obtain ⟨cs, e2, h⟩ := R.of_bind h
  dsimp only at h e2
  split at h
  · obtain ⟨⟨r, fs⟩, e3, h⟩ := R.of_bind h
    cases h
    exact ⟨ss, ρ1, cs, r, fs, e1, e2, by assumption, e3, rfl, rfl⟩
  · cases h
theorem args_length {ρ : Env} : ∀ {ss : List Src} {cs : List Cell}, args ρ ss = .ok cs → cs.length = ss.length
  | [], _, e => by cases e; rfl
  | s :: ss, cs, e => by
    obtain ⟨cs', e1, e⟩ := R.of_bind e
    split at e
    · cases e; rw [List.length_cons, List.length_cons, args_length e1]
    · cases e
/-- the callee's promise serves the caller -/
theorem call_sem {K : PySem.W.Frag} {n np : Nat} {H : Hp} {w : OM} {σ : L2.St} {ρ : Env} {ss : List Src} {vs : List V} {cs : List Cell} {f : FD} {r : Cell} {fs : List Cell} {Q : VK} {E : XK} (ok : Ok K H w σ ρ) (sa : SrcsAt K H w σ n ss vs) (ha : args ρ ss = .ok cs) (hd : dupF (ioSlots ρ ss) = true) (hf : f cs = .ok (r, fs)) (hnp : ss.length = np)
    (k : ∀ v H' w', Ok K H' w' σ (back ρ ss fs ρ) → Step n H w H' w' → Ow K H' w' (.tm n) r.k r.d v → Q v H') : spD K np f vs H Q E := by
  refine ⟨fun a => lab ρ n 0 ss (w a), cs, r, fs, by rw [args_length ha]; exact hnp, ?_, fun a h => ok.live a fun z => h (by show lab ρ n 0 ss (w a) = _; rw [z]; exact lab_no), hf, fun v H' wc' live' st ow fin => ?_⟩
  · exact args_at ok (fun a z => by show lab ρ n 0 ss (w a) = _; rw [z]; exact lab_no) sa ha hd fun a => ⟨fun _ _ _ => rfl, fun _ _ _ => rfl⟩
  · have wd : ∀ a, wc' a ≠ .out → (if wc' a = .out then w a else unl ρ n 0 ss (wc' a)) = unl ρ n 0 ss (wc' a) := fun a h => if_neg h
    have keep : ∀ a x, H a = some x → lab ρ n 0 ss (w a) = .out → H' a = some x ∧ (if wc' a = .out then w a else unl ρ n 0 ss (wc' a)) = w a := fun a x e h => by
      obtain ⟨h1, h2⟩ := st a x e (by show Fixed 0 (lab ρ n 0 ss (w a)); rw [h]; exact .inr (.inl rfl))
      exact ⟨h1, if_pos (h2.trans h)⟩
    have keepNo : ∀ a x, H a = some x → w a = .no → H' a = some x ∧ (if wc' a = .out then w a else unl ρ n 0 ss (wc' a)) = w a := fun a x e h => by
      have hl : lab ρ n 0 ss (w a) = .no := by rw [h]; exact lab_no
      obtain ⟨h1, h2⟩ := st a x e (by show Fixed 0 (lab ρ n 0 ss (w a)); rw [hl]; exact .inl rfl)
      have h3 : wc' a = .no := h2.trans hl
      exact ⟨h1, by rw [h3, if_neg (by intro z; cases z), unl_no, h]⟩
    have stn : Step n H w H' (fun a => if wc' a = .out then w a else unl ρ n 0 ss (wc' a)) := fun a x e f => by
      rcases f with f | f | ⟨j, hj, f⟩
      · exact keepNo a x e f
      · exact keep a x e (by rw [f]; exact lab_out (by intro z; cases z) (fun m _ z => by cases z) fun i _ z => by cases z)
      · exact keep a x e (by rw [f]; exact lab_out (by intro z; cases z) (fun m hm z => by cases z; omega) fun i _ z => by cases z)
    refine k v H' _ ⟨by rw [back_length]; exact ok.len, fun i c hc => ?_, fun a h => live' a fun z => h ?_⟩ stn ?_
    · rcases back_get sa ha fin hc with ⟨z1, z2⟩ | ⟨j', u, a1, a2, a3, _⟩
      · obtain ⟨u, hu, ow⟩ := ok.slot i c z2
        refine ⟨u, hu, ow.step fun a x e z => ?_⟩
        rcases z with z | z
        · exact keepNo a x e z
        · exact keep a x e (by rw [z]; exact lab_out (by intro z; cases z) (fun m _ z => by cases z) fun i' hi' z => by cases z; exact z1 hi')
      · refine ⟨u, a1, a2.map (fun a z => ?_) fun a z => ?_⟩
        · show (if wc' a = .out then w a else unl ρ n 0 ss (wc' a)) = _
          rw [z, if_neg (by intro z; cases z), unl_no]
        · show (if wc' a = .out then w a else unl ρ n 0 ss (wc' a)) = _
          rw [z, if_neg (by intro z; cases z), a3]
    · show (if wc' a = .out then w a else unl ρ n 0 ss (wc' a)) = _
      rw [z, if_neg (by intro z; cases z), unl_no]
    · refine ow.map (fun a z => ?_) fun a z => ?_
      · show (if wc' a = .out then w a else unl ρ n 0 ss (wc' a)) = _
        rw [z, if_neg (by intro z; cases z), unl_no]
      · show (if wc' a = .out then w a else unl ρ n 0 ss (wc' a)) = _
        rw [z, if_neg (by intro z; cases z), unl_tm]
section
variable {X : Cx}
/-- f(e, ..) -/
theorem sa_call {x : Str} {p pos : Pos} {e : Expr} {es : List Expr} {ms : List AE} {f : FD} {fa : Addr} {fd : FuncData} {ps : List Str} {k np : Nat} (F : FnOkG X.prog X.w X.K X.mg X.base CX0 k fa fd ps (spD X.K np f)) (hr : RoomG k X.A) (hm : X.mg x = some (.ref fa)) (hk : PySem.W.keepIn X.K (.ref fa) = true) (hb : Binds X.K fd ps [])
    (ha : SAs X (e :: es) ms) (hl : ms.length = np := by rfl) (hg : Gl X x := by rfl) (hdb : (x == ("__debug__" : Str)) = false := by decide) (he : starEach (e :: es) X.env = (false, eval e X.env) :: starEach es X.env := by rfl) (hpl : (backTo pos (starEach es X.env)).any (·.1) = false := by rfl) :
    SA X (.Call (.Name x p) (e :: es) [] pos) (mCall f ms) := by
  obtain ⟨t, q, g⟩ := ha.ex
  refine ⟨_, pe_callG F hr hg hm hk hb pass0 q hdb he hpl, fun n σ H w ρ s ρ' Q ok hm k => ?_⟩
  obtain ⟨ss, ρ1, cs, r, fs, e1, e2, e3, e4, rfl, rfl⟩ := mCall_ok hm
  refine g n σ H w ρ ss ρ1 _ ok e1 fun vs H1 w1 ok1 st1 sa => ?_
  exact call_sem ok1 sa e2 e3 e4 (by rw [evs_length e1]; exact hl) fun v H' w' ok' st' ow => k v H' w' ok' (st1.trans st') ow
end
end Z

/-! ZA: stores, methods. -/
namespace Z
open PySem PySem.Spec PyProof.Rows L2

section
variable {K : PySem.W.Frag} {H : Hp} {w : OM} {σ : L2.St} {ρ : Env}
/-- the list at slot i is changed -/
theorem Ok.putLst {i : Nat} {a : Addr} {l l' : List D} {vs' : List V} (ok : Ok K H w σ ρ) (hi : ρ.get i = some ⟨.lst l, 1⟩) (hs : σ[i]? = some (some (.ref a))) (hw : w a = .sl i) (f : FzL K H w l' vs') :
    Ok K (upd H a (.lst vs')) w σ (ρ.set i (some ⟨.lst l', 1⟩)) := by
  have h0 : w a ≠ .no := by rw [hw]; intro z; cases z
  refine ⟨by rw [Env.length_set]; exact ok.len, fun j x q => ?_, fun b h => ?_⟩
  · rcases Env.get_set q with ⟨ej, z⟩ | ⟨hj, z⟩
    · subst ej
      cases z
      exact ⟨_, hs, .lst upd_same hw (f.step (Kp.write (o1 := .no) h0 h0))⟩
    · obtain ⟨u, e1, q⟩ := ok.slot j x z
      exact ⟨u, e1, q.step (Kp.write h0 (by rw [hw]; intro z; cases z; exact hj rfl))⟩
  · by_cases z : b = a
    · subst z; rw [upd_same]; exact fun q => nomatch q
    · rw [upd_ne z]; exact ok.live b h
theorem Ok.slotLst {i : Nat} {l : List D} (ok : Ok K H w σ ρ) (hi : ρ.get i = some ⟨.lst l, 1⟩) : ∃ a vs, σ[i]? = some (some (.ref a)) ∧ H a = some (.lst vs) ∧ w a = .sl i ∧ FzL K H w l vs := by
  obtain ⟨v, e, ow⟩ := ok.slot i _ hi
  cases ow with
  | lst h n t => exact ⟨_, _, e, h, n, t⟩
end
section
variable {X : Cx} {pos : Pos}
/-! ### x[i] = v, a list -/
def setD (l : List D) (i : Int) (d : D) : Option (List D) := (ixN l.length i).map fun j => l.set j d
def mSetIx (i : Nat) (mi mv : AE) : MS := fun _ ρ => do
  let (sv, ρ1) ← mv ρ
  let (c, ρ2) ← esc sv ρ1
  match ρ2.get i with
  | some _ => do
    let (si, ρ3) ← mi ρ2
    match si.cell ρ3, ρ3.get i with
    | some ⟨.int k, _⟩, some ⟨.lst l, 1⟩ => match setD l k c.d with
      | some l' => R.ok (.next, ρ3.set i (some ⟨.lst l', 1⟩))
      | none => R.bad
    | _, _ => R.bad
  | none => R.bad
theorem setD_ok {K : PySem.W.Frag} {H : Hp} {w : OM} {l l' : List D} {vs : List V} {k : Int} {d : D} {v : V} (e : setD l k d = some l') (f : FzL K H w l vs) (fd : Fz K H w d v) : ∃ j, ixN vs.length k = some j ∧ FzL K H w l' (vs.set j v) := by
  unfold setD at e
  rw [f.length] at e
  cases q : ixN vs.length k with
  | none => rw [q] at e; cases e
  | some j =>
    rw [q] at e
    cases e
    exact ⟨j, rfl, f.set fd j⟩
theorem ss_setIxL {i : Nat} {x : Str} {e b : Expr} {mi mv : AE} {p tp : Pos} (hN : X.N[i]? = some x) (hv : Vis X.env.scope x) (hd : (x == ("__debug__" : Str)) = false) (hcd : (x == ("__classdict__" : Str)) = false) (he : SA X e mv) (hb : SA X b mi)
    (hs : swapsWithSole [.Subscript (.Name x p) b tp] e pos.line X.env = pure false) (hw : swappedStores [.Subscript (.Name x p) b tp] e X.env = pure none)
    (ha : ∀ v, assign (.Subscript (.Name x p) b tp) X.env v = (do
      let ov ← holding [v] (eval (.Name x p) X.env)
      let iv ← holding [v, ov] (eval b X.env)
      standAt tp
      holding [v, ov, iv] (setItem ov iv v)
      release [v, ov, iv] [])) (h1 : (assignEach [.Subscript (.Name x p) b tp] X.env).map (·.2) = [assign (.Subscript (.Name x p) b tp) X.env]) :
    SS X (.Assign [.Subscript (.Name x p) b tp] e pos) (mSetIx i mi mv) := by
  obtain ⟨t, q, g⟩ := he.ex
  obtain ⟨u, r, g2⟩ := hb.ex
  refine ⟨_, ps_asg q (pg_sub (pe_var hN hv hd hcd) r set_list ha) hs hw h1, fun n σ H w ρ L fl ρ' D ok hm k => ?_⟩
  obtain ⟨⟨sv, ρ1⟩, e1, hm⟩ := R.of_bind hm
  obtain ⟨⟨c, ρ2⟩, e2, hm⟩ := R.of_bind hm
  dsimp only at hm
  split at hm
  · rename_i c0 hc0
    obtain ⟨⟨si, ρ3⟩, e3, hm⟩ := R.of_bind hm
    dsimp only at hm
    split at hm
    · rename_i kk _ l hck hcl
      split at hm
      · rename_i l' hl'
        cases hm
        refine g n σ H w ρ sv _ _ ok e1 fun v H1 w1 ok1 st1 sa => ?_
        obtain ⟨w2, ok2, st2, ow, _⟩ := esc_ok ok1 sa e2
        have ok3 : Ok X.K H1 (w2.re (.tm n) .no) σ ρ2 := ok2.re (by intro z; cases z) (by intro i z; cases z)
        have fz3 : Fz X.K H1 (w2.re (.tm n) .no) c.d v := ow.freeze (by intro z; cases z)
        have st3 : Step n H w H1 (w2.re (.tm n) .no) := (st1.trans (st2 n)).trans (Step.re not_fixed_tm)
        obtain ⟨vo, eo, _⟩ := ok3.slot i c0 hc0
        refine ⟨vo, eo, g2 n σ H1 _ ρ2 si _ _ ok3 e3 fun vi H4 w4 ok4 st4 sa4 => ?_⟩
        obtain ⟨o, _, h1⟩ := sa4.cell ok4 hck
        cases ow_int h1
        obtain ⟨a, vs, ea, hH, hwa, fl4⟩ := ok4.slotLst hcl
        rw [eo] at ea
        cases ea
        obtain ⟨j, hj, f5⟩ := setD_ok hl' fl4 (st4.fz fz3)
        refine ⟨a, vs, kk, j, rfl, rfl, hH, hj, ?_⟩
        exact k σ _ w4 (ok4.putLst hcl eo hwa f5) ((st3.trans st4).trans (Step.write (by rw [hwa]; exact not_fixed_sl))) fun _ _ => rfl
      · cases hm
    · cases hm
  · cases hm
/-! ### x[i] = v, a dict -/
def dPut : List Key → List D → Key → D → List Key × List D
  | k :: ks, d :: ds, q, v => if k = q then (k :: ks, v :: ds) else
    let r := dPut ks ds q v
    (k :: r.1, d :: r.2)
  | _, _, q, v => ([q], [v])
/-! ### name op= e -/
def mAug (i : Nat) (f : List Cell → R Cell) (m : AE) : MS := fun L ρ => match ρ.get i with
  | some c0 => do
    let (s, ρ1) ← m ρ
    match s.cell ρ1 with
    | some c => do
      let r ← f [⟨c0.d, 0⟩, c]
      if c0.k = 0 then (if L.contains i then R.bad else R.ok (.next, ρ1.set i (some r))) else R.bad
    | none => R.bad
  | none => R.bad
theorem ss_aug {i : Nat} {x : Str} {e : Expr} {m : AE} {op : Operator} {f : List Cell → R Cell} {r : R2} {pos' : Pos} (ho : OpR X (inplaceOp op) r) (hs : CallS X (r2L r) f) (hN : X.N.Nodup) (he : SA X e m) (hi : X.N[i]? = some x := by rfl) (hx : Loc X.env.scope x := by first | exact Or.inl rfl | exact Or.inr rfl)
    (hf : X.fn x = true ∨ X.env.scope.names.lookup x = some .local := by first | exact .inl rfl | exact .inr rfl) : SS X (.AugAssign (.Name x pos') op e pos) (mAug i f m) := by
  obtain ⟨t, q, g⟩ := he.ex
  refine ⟨_, ps_aug hN hi hx q ho hf, fun n σ H w ρ L fl ρ' D ok hm k => ?_⟩
  unfold mAug at hm
  split at hm
  · rename_i c0 hc0
    obtain ⟨⟨s, ρ1⟩, e1, hm⟩ := R.of_bind hm
    dsimp only at hm
    split at hm
    · rename_i c hc
      obtain ⟨rr, e2, hm⟩ := R.of_bind hm
      split at hm
      · rename_i hk
        split at hm
        · cases hm
        · rename_i hL
          cases hm
          obtain ⟨v0, ev0, ow0⟩ := ok.slot i c0 hc0
          have fz0 : Fz X.K H w c0.d v0 := by
            rw [hk] at ow0
            cases ow0 with | fz h => exact h
          refine ⟨v0, ev0, g n σ H w ρ s _ _ ok e1 fun v H1 w1 ok1 st1 sa => ?_⟩
          obtain ⟨o, hno, ow⟩ := sa.cell ok1 hc
          refine hs n H1 w1 σ _ _ [v0, v] rr _ ok1 (.cons (o := .tm n) (by intro z; cases z) (.fz (st1.fz fz0)) (.cons hno ow .nil)) e2 fun v2 H2 w2 ok2 st2 ow2 => ?_
          exact k _ H2 _ (ok2.store (i := i) ow2) ((st1.trans st2).trans (Step.re not_fixed_tm)) (set_keep (by simpa using hL))
      · cases hm
    · cases hm
  · cases hm
theorem iop_addAll : OpR X (inplaceOp .Add) (fun x y H Q => (rI0 (fun i j => .int (i + j)) x y H Q) ∨ (∃ i j, x = .str i ∧ y = .str j ∧ i.length + j.length ≤ sizeLine ∧ Q (.str (i ++ j)) H)) := iop_add.or iop_add_str
def fIAdd : List Cell → R Cell
  | [⟨.int i, _⟩, ⟨.int j, _⟩] => .ok (Cell.fz (.int (i + j)))
  | [⟨.str x, _⟩, ⟨.str y, _⟩] => if x.length + y.length ≤ 16777216 then .ok (Cell.fz (.str (x ++ y))) else .bad
  | _ => .bad
theorem s_iadd : CallS X (r2L fun x y H Q => (rI0 (fun i j => .int (i + j)) x y H Q) ∨ (∃ i j, x = .str i ∧ y = .str j ∧ i.length + j.length ≤ sizeLine ∧ Q (.str (i ++ j)) H)) fIAdd := by
  intro n H w σ ρ cs vs c Q ok ow e k
  unfold fIAdd at e
  split at e
  · cases e
    obtain ⟨v, u, o, q, rfl, h1, h2⟩ := ow.two
    cases ow_int h1
    cases ow_int h2
    exact .inl ⟨_, _, rfl, rfl, k _ H w ok Step.refl (.fz (.int _))⟩
  · split at e
    · cases e
      obtain ⟨v, u, o, q, rfl, h1, h2⟩ := ow.two
      cases ow_str h1
      cases ow_str h2
      exact .inr ⟨_, _, rfl, rfl, by rw [sizeLine_eq]; assumption, k _ H w ok Step.refl (.fz (.str _))⟩
    · cases e
  · cases e
/-! ### x[i] op= e, a list of ints -/
def mAugIx (i : Nat) (mi : AE) (f : List Cell → R Cell) (mv : AE) : MS := fun _ ρ => match ρ.get i with
  | some _ => do
    let (si, ρ1) ← mi ρ
    match si.cell ρ1, ρ1.get i with
    | some ⟨.int kk, _⟩, some ⟨.lst l, 1⟩ => match atI l kk with
      | some (.int old) => do
        let (sv, ρ2) ← mv ρ1
        match sv.cell ρ2 with
        | some c => do
          let r ← f [⟨.int old, 0⟩, c]
          match r, ρ2.get i with
          | ⟨.int new, _⟩, some ⟨.lst l2, 1⟩ => match setD l2 kk (.int new) with
            | some l' => R.ok (.next, ρ2.set i (some ⟨.lst l', 1⟩))
            | none => R.bad
          | _, _ => R.bad
        | none => R.bad
      | _ => R.bad
    | _, _ => R.bad
  | none => R.bad
theorem ss_augIx {i : Nat} {x : Str} {b e : Expr} {mi mv : AE} {op : Operator} {f : List Cell → R Cell} {r : R2} {p tp : Pos} (ho : OpR X (inplaceOp op) r) (hs : CallS X (r2L r) f) (hb : SA X b mi) (he : SA X e mv) (hN : X.N[i]? = some x := by rfl) (hv : Vis X.env.scope x := by first | exact Or.inl rfl | exact Or.inr (Or.inl rfl) | exact Or.inr (Or.inr rfl)) (hd : (x == ("__debug__" : Str)) = false := by decide) (hcd : (x == ("__classdict__" : Str)) = false := by decide)
    (ha : ∀ ov iv new, augStore b ov iv new = (do holding [new, ov, iv] (setItem ov iv new); release [new, ov, iv] []; pure .next) := by intros; rfl) : SS X (.AugAssign (.Subscript (.Name x p) b tp) op e pos) (mAugIx i mi f mv) := by
  obtain ⟨t, q, g⟩ := hb.ex
  obtain ⟨u, q2, g2⟩ := he.ex
  refine ⟨_, ps_augS (pe_var hN hv hd hcd) q get_list q2 ho set_list ha, fun n σ H w ρ L fl ρ' D ok hm k => ?_⟩
  unfold mAugIx at hm
  split at hm
  · rename_i c0 hc0
    obtain ⟨v0, ev0, _⟩ := ok.slot i c0 hc0
    obtain ⟨⟨si, ρ1⟩, e1, hm⟩ := R.of_bind hm
    dsimp only at hm
    split at hm
    · rename_i kk _ l hck hcl
      split at hm
      · rename_i old hold
        obtain ⟨⟨sv, ρ2⟩, e2, hm⟩ := R.of_bind hm
        dsimp only at hm
        split at hm
        · rename_i c hc
          obtain ⟨rr, e3, hm⟩ := R.of_bind hm
          split at hm
          · rename_i new _ l2 hcl2
            split at hm
            · rename_i l' hl'
              cases hm
              refine ⟨v0, ev0, g n σ H w ρ si _ _ ok e1 fun vi H1 w1 ok1 st1 sa => ?_⟩
              obtain ⟨o, _, h1⟩ := sa.cell ok1 hck
              cases ow_int h1
              obtain ⟨a, vs, ea, hH, hwa, fl1⟩ := ok1.slotLst hcl
              rw [ev0] at ea
              cases ea
              obtain ⟨vold, hvo, fo⟩ := atI_fz fl1 hold
              cases fo
              refine ⟨a, vs, kk, _, rfl, rfl, .inl (.inl hH), hvo, ?_⟩
              refine g2 n σ H1 w1 ρ1 sv _ _ ok1 e2 fun v2 H2 w2 ok2 st2 sa2 => ?_
              obtain ⟨o2, hno2, h2⟩ := sa2.cell ok2 hc
              refine hs n H2 w2 σ _ _ [.int old, v2] _ _ ok2 (.cons (o := .tm n) (by intro z; cases z) (.fz (.int old)) (.cons hno2 h2 .nil)) e3 fun v3 H3 w3 ok3 st3 ow3 => ?_
              cases ow_int ow3
              obtain ⟨a3, vs3, ea3, hH3, hwa3, fl3⟩ := ok3.slotLst hcl2
              rw [ev0] at ea3
              cases ea3
              obtain ⟨j, hj, f5⟩ := setD_ok hl' fl3 (.int new)
              refine ⟨a, vs3, kk, j, rfl, rfl, hH3, hj, ?_⟩
              exact k σ _ w3 (ok3.putLst hcl2 ev0 hwa3 f5) (((st1.trans st2).trans st3).trans (Step.write (by rw [hwa3]; exact not_fixed_sl))) fun _ _ => rfl
            · cases hm
          · cases hm
        · cases hm
      · cases hm
    · cases hm
  · cases hm

/-! ### methods of a list that stands in a slot -/
/-- f: the items, the arguments; what comes back, the items behind -/
def MethS (X : Cx) (r : V → List V → Hp → VK → Prop) (f : List D → List D → R (D × List D)) : Prop :=
  ∀ (H : Hp) (w : OM) (a : Addr) (vs us : List V) (l ds : List D) (d : D) (l' : List D) (Q : VK), H a = some (.lst vs) → FzL X.K H w l vs → FzL X.K H w ds us → f l ds = .ok (d, l') →
    (∀ v vs', Fz X.K H w d v → FzL X.K H w l' vs' → Q v (upd H a (.lst vs'))) → r (.ref a) us H Q
def mMeth (i : Nat) (f : List D → List D → R (D × List D)) (ms : List AE) : AE := fun ρ => match ρ.get i with
  | some ⟨.lst _, 1⟩ => do
    let (ss, ρ1) ← evs ms ρ
    let (ds, ρ2) ← escs ss ρ1
    match ρ2.get i with
    | some ⟨.lst l, 1⟩ => do
      let (d, l') ← f l ds
      R.ok (.v (Cell.fz d), ρ2.set i (some ⟨.lst l', 1⟩))
    | _ => R.bad
  | _ => R.bad
theorem meth_sem {i : Nat} {f : List D → List D → R (D × List D)} {ms : List AE} {r : V → List V → Hp → VK → Prop} {t : TA} (hs : MethS X r f)
    (g : ∀ (n : Nat) (σ : L2.St) (H : Hp) (w : OM) (ρ : Env) (ss : List Src) (ρ' : Env) (Q : List V → Hp → Prop), Ok X.K H w σ ρ → evs ms ρ = .ok (ss, ρ') →
      (∀ vs H' w', Ok X.K H' w' σ ρ' → Step n H w H' w' → SrcsAt X.K H' w' σ n ss vs → Q vs H') → t σ H Q) :
    ∀ (n : Nat) (σ : L2.St) (H : Hp) (w : OM) (ρ : Env) (s : Src) (ρ' : Env) (Q : VK), Ok X.K H w σ ρ → mMeth i f ms ρ = .ok (s, ρ') →
    (∀ v H' w', Ok X.K H' w' σ ρ' → Step n H w H' w' → SrcAt X.K H' w' σ n s v → Q v H') → ∃ x, σ[i]? = some (some x) ∧ tyV X.K "list" x H ∧ t σ H fun xs H2 => r x xs H2 Q := by
  intro n σ H w ρ s ρ' Q ok hm k
  unfold mMeth at hm
  split at hm
  · rename_i l0 hl0
    obtain ⟨⟨ss, ρ1⟩, e1, hm⟩ := R.of_bind hm
    obtain ⟨⟨ds, ρ2⟩, e2, hm⟩ := R.of_bind hm
    dsimp only at hm e2
    split at hm
    · rename_i l hl
      obtain ⟨⟨d, l'⟩, e3, hm⟩ := R.of_bind hm
      cases hm
      obtain ⟨a, vs0, ea, hH0, _, _⟩ := ok.slotLst hl0
      refine ⟨_, ea, .inl ⟨rfl, vs0, .inl (.inl hH0)⟩, ?_⟩
      refine g n σ H w ρ ss _ _ ok e1 fun us H1 w1 ok1 st1 sa => ?_
      obtain ⟨w2, ok2, st2, fd⟩ := escs_ok ok1 sa e2
      obtain ⟨a2, vs, ea2, hH2, hwa2, fl2⟩ := ok2.slotLst hl
      rw [ea] at ea2
      cases ea2
      refine hs H1 w2 a vs us l ds d l' Q hH2 fl2 fd e3 fun v vs' fv fl' => ?_
      have h0 : w2 a ≠ .no := by rw [hwa2]; intro z; cases z
      exact k v _ w2 (ok2.putLst hl ea hwa2 fl') ((st1.trans st2).trans (Step.write (by rw [hwa2]; exact not_fixed_sl))) (.fz (fv.step (Kp.write (o1 := .no) h0 h0)))
    · cases hm
  · cases hm
theorem sa_meth {i : Nat} {x name : Str} {id : String} {e : Expr} {es : List Expr} {ms : List AE} {f : List D → List D → R (D × List D)} {r : V → List V → Hp → VK → Prop} {p apos cpos : Pos} (slot : Slot "list" name id) (hty : typeOf (.builtin id) = pure (.type "method_descriptor")) (hm : MtR X id r) (hs : MethS X r f) (ha : SAs X (e :: es) ms)
    (hN : X.N[i]? = some x := by rfl) (hv : Vis X.env.scope x := by first | exact Or.inl rfl | exact Or.inr (Or.inl rfl) | exact Or.inr (Or.inr rfl)) (hd : (x == ("__debug__" : Str)) = false := by decide) (hcd : (x == ("__classdict__" : Str)) = false := by decide)
    (hbase : attributeBase (.Name x p) name X.env (eval (.Name x p) X.env) = eval (.Name x p) X.env := by rfl)
    (hfew : ((backTo cpos (starEach (e :: es) X.env)).all (fun x => !x.1) && (backToKw cpos (keywordEach [] X.env)).all (fun x => x.1.isSome)
      && decide ((e :: es).length + ([] : List Keyword).length + (if ([] : List Keyword).isEmpty then 0 else 1) < 30)) = true := by rfl)
    (hline : (apos.endLine == cpos.line) = true := by rfl) (hst : starEach (e :: es) X.env = (false, eval e X.env) :: starEach es X.env := by rfl) (hplain : (backTo cpos (starEach es X.env)).any (·.1) = false := by rfl) :
    SA X (.Call (.Attribute (.Name x p) name apos) (e :: es) [] cpos) (mMeth i f ms) := by
  obtain ⟨t, q, g⟩ := ha.ex
  exact ⟨_, pe_bm PySem.F.plainAttrs_list slot hty hm (pe_var hN hv hd hcd) q hbase hfew hline hst hplain, fun n σ H w ρ s ρ' Q ok hm k => meth_sem hs g n σ H w ρ s ρ' Q ok hm k⟩
theorem sa_meth0 {i : Nat} {x name : Str} {id : String} {f : List D → List D → R (D × List D)} {r : V → List V → Hp → VK → Prop} {p apos cpos : Pos} (slot : Slot "list" name id) (hty : typeOf (.builtin id) = pure (.type "method_descriptor")) (hm : MtR X id r) (hs : MethS X r f)
    (hN : X.N[i]? = some x := by rfl) (hv : Vis X.env.scope x := by first | exact Or.inl rfl | exact Or.inr (Or.inl rfl) | exact Or.inr (Or.inr rfl)) (hd : (x == ("__debug__" : Str)) = false := by decide) (hcd : (x == ("__classdict__" : Str)) = false := by decide)
    (hbase : attributeBase (.Name x p) name X.env (eval (.Name x p) X.env) = eval (.Name x p) X.env := by rfl) (hline : (apos.endLine == cpos.line) = true := by rfl) :
    SA X (.Call (.Attribute (.Name x p) name apos) [] [] cpos) (mMeth i f []) := by
  have g := (sas_nil (X := X)).ex
  obtain ⟨t, q, g⟩ := g
  refine ⟨_, pe_bm0 PySem.F.plainAttrs_list slot hty hm (pe_var hN hv hd hcd) hbase hline, fun n σ H w ρ s ρ' Q ok hm k => ?_⟩
  have z := meth_sem (t := tNil) hs (fun n σ H w ρ ss ρ' Q ok h k => by cases h; exact k [] H w ok Step.refl trivial) n σ H w ρ s ρ' Q ok hm k
  exact z
def fAppend (l ds : List D) : R (D × List D) := match ds with
  | [d] => if l.length < 16777216 then .ok (.non, l ++ [d]) else .bad
  | _ => .bad
theorem s_append : MethS X rAppend fAppend := by
  intro H w a vs us l ds d l' Q hH fl fd e k
  unfold fAppend at e
  split at e
  · split at e
    · rename_i hl
      cases e
      cases fd with
      | cons f1 f2 =>
        cases f2
        exact ⟨a, vs, _, rfl, rfl, hH, by rw [sizeLine_eq, ← fl.length]; exact hl, k _ _ .non (fl.append (.cons f1 .nil))⟩
    · cases e
  · cases e
def fExtend (l ds : List D) : R (D × List D) := match ds with
  | [.lst m] => if l.length + m.length ≤ 16777216 then .ok (.non, l ++ m) else .bad
  | _ => .bad
theorem s_extend : MethS X rExtend fExtend := by
  intro H w a vs us l ds d l' Q hH fl fd e k
  unfold fExtend at e
  split at e
  · split at e
    · rename_i hl
      cases e
      cases fd with
      | cons f1 f2 =>
        cases f2
        cases f1 with
        | lst hb nb fb => exact ⟨a, _, vs, _, rfl, rfl, hH, hb, by rw [sizeLine_eq, ← fl.length, ← fb.length]; exact hl, k _ _ .non (fl.append fb)⟩
    · cases e
  · cases e
/-- pop(), pop(i) -/
def fPop0 (l ds : List D) : R (D × List D) := match ds with
  | [] => match l[l.length - 1]? with
    | some d => .ok (d, l.dropLast)
    | none => .bad
  | _ => .bad
theorem s_pop0 : MethS X rPop fPop0 := by
  intro H w a vs us l ds d l' Q hH fl fd e k
  unfold fPop0 at e
  split at e
  · split at e
    · rename_i hl
      cases e
      cases fd
      obtain ⟨v, hv, fv⟩ := fl.get hl
      exact ⟨a, vs, v, rfl, rfl, hH, by rw [← fl.length]; exact hv, k _ _ fv fl.dropLast⟩
    · cases e
  · cases e
def fPop1 (l ds : List D) : R (D × List D) := match ds with
  | [.int i] => if -(2 ^ 63) ≤ i ∧ i < 2 ^ 63 then match seqIndex? i l.length with
      | some j => match l[j]? with
        | some d => .ok (d, l.eraseIdx j)
        | none => .bad
      | none => .bad
    else .bad
  | _ => .bad
theorem s_pop1 : MethS X rPopAt fPop1 := by
  intro H w a vs us l ds d l' Q hH fl fd e k
  unfold fPop1 at e
  split at e
  · split at e
    · rename_i hi
      split at e
      · rename_i j hj
        split at e
        · rename_i hl
          cases e
          cases fd with
          | cons f1 f2 =>
            cases f2
            cases f1
            obtain ⟨v, hv, fv⟩ := fl.get hl
            exact ⟨a, vs, _, j, v, rfl, rfl, hH, hi.1, hi.2, by rw [← fl.length]; exact hj, hv, k _ _ fv (fl.eraseIdx j)⟩
        · cases e
      · cases e
    · cases e
  · cases e
def fReverse (l ds : List D) : R (D × List D) := match ds with
  | [] => .ok (.non, l.reverse)
  | _ => .bad
theorem s_reverse : MethS X rReverse fReverse := by
  intro H w a vs us l ds d l' Q hH fl fd e k
  unfold fReverse at e
  split at e
  · cases e
    cases fd
    exact ⟨a, vs, rfl, rfl, hH, k _ _ .non fl.reverse⟩
  · cases e

/-! ### index -/
def ixOf (x : D) : Nat → List D → Option Nat
  | _, [] => none
  | j, d :: r => if d.eqv x then some j else ixOf x (j + 1) r
theorem ixOf_ok {x : D} : ∀ {l : List D} {j i : Nat}, ixOf x j l = some i → ∃ k z, i = j + k ∧ l[k]? = some z ∧ z.eqv x = true ∧ ∀ (m : Nat) (z' : D), m < k → l[m]? = some z' → z'.eqv x = false
  | [], _, _, h => by cases h
  | d :: r, j, i, h => by
    unfold ixOf at h
    split at h
    · rename_i hd
      cases h
      exact ⟨0, d, rfl, rfl, hd, fun m z' hm _ => absurd hm (Nat.not_lt_zero m)⟩
    · rename_i hd
      obtain ⟨k, z, h1, h2, h3, h4⟩ := ixOf_ok h
      refine ⟨k + 1, z, by omega, by simpa using h2, h3, fun m z' hm hz => ?_⟩
      cases m with
      | zero =>
        have hz : d = z' := by simpa using hz
        subst hz
        simpa using hd
      | succ m => exact h4 m z' (by omega) (by simpa using hz)
def fIndexL : List Cell → R Cell
  | [⟨.lst l, _⟩, c] => if (D.lst l).okd 60 && c.d.okd 60 then match ixOf c.d 0 l with
      | some j => .ok (Cell.fz (.int j))
      | none => .bad
    else .bad
  | _ => .bad
def fIndexT : List Cell → R Cell
  | [⟨.tup l, _⟩, c] => if (D.tup l).okd 60 && c.d.okd 60 then match ixOf c.d 0 l with
      | some j => .ok (Cell.fz (.int j))
      | none => .bad
    else .bad
  | _ => .bad
theorem ixOf_py {l : List D} {x : D} {j : Nat} (h : ixOf x 0 l = some j) : ∃ z, (D.pyL l)[j]? = some z ∧ PyData.eqv z x.py = true ∧ ∀ (m : Nat) (z' : PyData), m < j → (D.pyL l)[m]? = some z' → PyData.eqv z' x.py = false := by
  obtain ⟨k, z, h1, h2, h3, h4⟩ := ixOf_ok h
  rw [Nat.zero_add] at h1
  subst h1
  rw [D.pyL_map]
  refine ⟨z.py, by rw [List.getElem?_map, h2]; rfl, h3, fun m z' hm hz => ?_⟩
  rw [List.getElem?_map] at hz
  cases q : l[m]? with
  | none => rw [q] at hz; cases hz
  | some y =>
    rw [q] at hz
    cases hz
    exact h4 m y hm q
/-! ### methods that read -/
def rRecv (r : V → List V → Hp → VK → Prop) : List V → Hp → VK → Prop := fun vs H Q => match vs with
  | x :: xs => r x xs H Q
  | [] => False
def mRecv (chk : D → Bool) (f : List Cell → R Cell) (m : AE) (ms : List AE) : AE := fun ρ => do
  let (s, ρ1) ← m ρ
  match (s.cell ρ1).map (fun c => chk c.d) with
  | some true => do
    let (ss, ρ2) ← evs ms ρ1
    match cells ρ2 (s :: ss) with
    | some cs => do
      let r ← f cs
      R.ok (.v r, ρ2)
    | none => R.bad
  | _ => R.bad
theorem sa_recv {o e : Expr} {es : List Expr} {m : AE} {ms : List AE} {chk : D → Bool} {f : List Cell → R Cell} {ty : V → Hp → Prop} {r : V → List V → Hp → VK → Prop} (hs : CallS X (rRecv r) f) (ht : ∀ (H : Hp) (w : OM) (o : Own) (k : Nat) (d : D) (v : V), chk d = true → Ow X.K H w o k d v → ty v H)
    (ho : SA X o m) (ha : SAs X es ms) (hp : ∀ t u, PE X o t → PA X es u → PE X e (fun σ H Q => t σ H fun x H1 => ty x H1 ∧ u σ H1 fun xs H2 => r x xs H2 Q)) : SA X e (mRecv chk f m ms) := by
  obtain ⟨t, p, g⟩ := ho.ex
  obtain ⟨u, q, g2⟩ := ha.ex
  refine ⟨_, hp t u p q, fun n σ H w ρ s ρ' Q ok hm k => ?_⟩
  obtain ⟨⟨s1, ρ1⟩, e1, hm⟩ := R.of_bind hm
  dsimp only at hm
  split at hm
  · rename_i hck
    obtain ⟨c0, hc0, hk⟩ := Option.map_eq_some_iff.mp hck
    obtain ⟨⟨ss, ρ2⟩, e2, hm⟩ := R.of_bind hm
    dsimp only at hm
    split at hm
    · rename_i cs hcs
      obtain ⟨rr, e3, hm⟩ := R.of_bind hm
      cases hm
      refine g n σ H w ρ s1 _ _ ok e1 fun v H1 w1 ok1 st1 sa => ?_
      obtain ⟨o1, _, ow1⟩ := sa.cell ok1 hc0
      refine ⟨ht H1 w1 o1 c0.k c0.d v hk ow1, ?_⟩
      refine g2 (n + 1) σ H1 w1 ρ1 ss _ _ ok1 e2 fun vs H2 w2 ok2 st2 sa2 => ?_
      refine hs n H2 w2 σ _ cs (v :: vs) rr Q ok2 (SrcsAt.cells (n := n) (ss := s1 :: ss) (vs := v :: vs) ok2 ⟨sa.step st2 (Nat.lt_succ_self n), sa2⟩ hcs) e3 fun v3 H3 w3 ok3 st3 q3 => ?_
      exact k v3 H3 w3 ok3 ((st1.trans (st2.mono (Nat.le_succ n))).trans st3) q3
    · cases hm
  · cases hm
def isLstD : D → Bool
  | .lst _ => true
  | _ => false
def isTupD : D → Bool
  | .tup _ => true
  | _ => false
def isStrD : D → Bool
  | .str _ => true
  | _ => false
theorem s_indexL : CallS X (rRecv (rIndexD X.K)) fIndexL := s_scalar fun K H w cs vs c Q hK ow e => by
  subst hK
  unfold fIndexL at e
  split at e
  · split at e
    · rename_i l _ c1 hc
      split at e
      · rename_i j hj
        cases e
        rw [Bool.and_eq_true] at hc
        obtain ⟨v, u, o, q, rfl, h1, h2⟩ := ow.two
        obtain ⟨a, xs, rfl, _⟩ := ow_lst h1
        obtain ⟨z, z1, z2, z3⟩ := ixOf_py hj
        refine ⟨_, .int j, rfl, by simp [isSc], fun q => ⟨a, u, c1.d.py, D.pyL l, j, z, rfl, rfl, by have := h1.dp hc.1; rw [D.py] at this; exact this, h2.dp hc.2, by have := D.okd_shaped hc.1; rw [D.py] at this; exact this, D.okd_shaped hc.2, z1, z2, z3, q⟩⟩
      · cases e
    · cases e
  · cases e
theorem s_indexT : CallS X (rRecv (rTIndexD X.K)) fIndexT := s_scalar fun K H w cs vs c Q hK ow e => by
  subst hK
  unfold fIndexT at e
  split at e
  · split at e
    · rename_i l _ c1 hc
      split at e
      · rename_i j hj
        cases e
        rw [Bool.and_eq_true] at hc
        obtain ⟨v, u, o, q, rfl, h1, h2⟩ := ow.two
        obtain ⟨a, xs, rfl, _⟩ := ow_tup h1
        obtain ⟨z, z1, z2, z3⟩ := ixOf_py hj
        refine ⟨_, .int j, rfl, by simp [isSc], fun q => ⟨a, u, c1.d.py, D.pyL l, j, z, rfl, rfl, by have := h1.dp hc.1; rw [D.py] at this; exact this, h2.dp hc.2, by have := D.okd_shaped hc.1; rw [D.py] at this; exact this, D.okd_shaped hc.2, z1, z2, z3, q⟩⟩
      · cases e
    · cases e
  · cases e
def mIndex (m me : AE) : AE := fun ρ => match mRecv isLstD fIndexL m [me] ρ with
  | .ok r => .ok r
  | _ => mRecv isTupD fIndexT m [me] ρ
/-- o.index(e), o a list or a tuple -/
theorem sa_index {o e : Expr} {m me : AE} {apos cpos : Pos} (hu : X.A.units + 65 < cLine) (ho : SA X o m) (he : SA X e me) (hbase : attributeBase o "index" X.env (eval o X.env) = eval o X.env := by rfl)
    (hfew : ((backTo cpos (starEach [e] X.env)).all (fun x => !x.1) && (backToKw cpos (keywordEach [] X.env)).all (fun x => x.1.isSome)
      && decide ([e].length + ([] : List Keyword).length + (if ([] : List Keyword).isEmpty then 0 else 1) < 30)) = true := by rfl)
    (hline : (apos.endLine == cpos.line) = true := by rfl) (hst : starEach [e] X.env = (false, eval e X.env) :: starEach [] X.env := by rfl) (hplain : (backTo cpos (starEach [] X.env)).any (·.1) = false := by rfl) :
    SA X (.Call (.Attribute o "index" apos) [e] [] cpos) (mIndex m me) := by
  refine SA.either (m1 := mRecv isLstD fIndexL m [me]) (m2 := mRecv isTupD fIndexT m [me]) ?_ ?_ fun ρ s ρ' h => ?_
  · refine sa_recv s_indexL (ty := tyV X.K "list") (fun H w o k d v hc ow => ?_) ho (sas_cons he sas_nil hst) fun t u p q => pe_bm PySem.F.plainAttrs_list PySem.F.slot_list_index PySem.F.type_list_index (mt_indexD hu) p q hbase hfew hline hst hplain
    cases d with
    | lst l =>
      obtain ⟨a, xs, rfl, hH, _⟩ := ow_lst ow
      exact .inl ⟨rfl, xs, .inl (.inl hH)⟩
    | _ => cases hc
  · refine sa_recv s_indexT (ty := fun x H => ∃ p, x = .ref p ∧ TupRc X.K H p) (fun H w o k d v hc ow => ?_) ho (sas_cons he sas_nil hst) fun t u p q => pe_tm PySem.F.slot_tuple_index PySem.F.type_tuple_index (mt_tindexD hu) p q hbase hfew hline hst hplain
    cases d with
    | tup l =>
      obtain ⟨a, xs, rfl, ta, _⟩ := ow_tup ow
      exact ⟨a, rfl, ta.rc⟩
    | _ => cases hc
  · unfold mIndex at h
    split at h
    · rename_i r hr
      cases h
      exact .inl hr
    · exact .inr h

/-! ### methods of texts -/
def fSplit : List Cell → R Cell
  | [⟨.str a, _⟩, ⟨.str b, _⟩] => if b.length ≠ 0 ∧ a.length + 2 ≤ 16777216 then .ok ⟨.lst ((Txt.split a b).map D.str), 1⟩ else .bad
  | _ => .bad
theorem s_split : CallS X (rRecv fun x xs H Q => ∃ a b, x = .str a ∧ xs = [.str b] ∧ (b.length == 0) = false ∧ a.length + 2 ≤ sizeLine ∧ rNewStrs (Txt.split a b) H Q) fSplit := by
  intro n H w σ ρ cs vs c Q ok ow e k
  unfold fSplit at e
  split at e
  · split at e
    · rename_i hc
      cases e
      obtain ⟨v, u, o, q, rfl, h1, h2⟩ := ow.two
      cases ow_str h1
      cases ow_str h2
      refine ⟨_, _, rfl, rfl, by simpa using hc.1, by rw [sizeLine_eq]; exact hc.2, fun p hp => ?_⟩
      exact k _ _ (w.put p (.tm n)) (ok.new hp _) (Step.new hp) (.lst upd_same OM.put_same (FzL.of_strs _))
    · cases e
  · cases e
def asStrs : List D → Option (List Str)
  | [] => some []
  | .str i :: r => match asStrs r with
    | some is => some (i :: is)
    | none => none
  | _ :: _ => none
theorem asStrs_map : ∀ ns : List Str, asStrs (ns.map D.str) = some ns
  | [] => rfl
  | n :: ns => by rw [List.map_cons, asStrs, asStrs_map ns]
theorem asStrs_eq : ∀ {l : List D} {ns : List Str}, asStrs l = some ns → l = ns.map D.str
  | [], ns, h => by cases h; rfl
  | d :: r, ns, h => by
    cases d with
    | str i =>
      unfold asStrs at h
      cases e : asStrs r with
      | none => rw [e] at h; cases h
      | some is => rw [e] at h; cases h; rw [asStrs_eq e]; rfl
    | _ => cases h
def itemsT : D → Option (List D)
  | .tup l => some l
  | .lst l => some l
  | .scr l => some l
  | _ => none
def fJoin : List Cell → R Cell
  | [⟨.str a, _⟩, c] => match itemsT c.d with
    | some l => if c.k ≤ 1 then match asStrs l with
        | some ys => if (ys.map (·.length)).sum + ys.length * a.length ≤ 16777216 then .ok (Cell.fz (.str (Txt.join a ys))) else .bad
        | none => .bad
      else .bad
    | none => .bad
  | _ => .bad
theorem s_join : CallS X (rRecv fun x xs H Q => ∃ a p, ∃ ys : List Str, x = .str a ∧ xs = [.ref p] ∧ (SqL X.K H p (ys.map V.str) ∨ SqT X.K H p (ys.map V.str)) ∧
    (ys.map (·.length)).sum + ys.length * a.length ≤ 16777216 ∧ Q (.str (Txt.join a ys)) H) fJoin := s_scalar fun K H w cs vs c Q hK ow e => by
  subst hK
  unfold fJoin at e
  split at e
  · rename_i a _ c1
    split at e
    · rename_i l hl
      split at e
      · rename_i hk
        split at e
        · rename_i ys hy
          split at e
          · rename_i hz
            cases e
            obtain ⟨v, u, o, q, rfl, h1, h2⟩ := ow.two
            cases ow_str h1
            obtain ⟨d, k⟩ := c1
            have el := asStrs_eq hy
            cases d with
            | tup m =>
              cases hl
              subst el
              obtain ⟨b, xs, rfl, ta, fa⟩ := ow_tup h2
              have := fa.strs
              subst this
              exact ⟨_, .str (Txt.join a ys), rfl, by simp [isSc], fun q => ⟨a, b, ys, rfl, rfl, .inr ta.sq, hz, q⟩⟩
            | lst m =>
              cases hl
              subst el
              obtain ⟨b, xs, rfl, hb, _, fa⟩ := ow_lst h2
              have := (fa hk).strs
              subst this
              exact ⟨_, .str (Txt.join a ys), rfl, by simp [isSc], fun q => ⟨a, b, ys, rfl, rfl, .inl (.inl (.inl hb)), hz, q⟩⟩
            | scr m =>
              cases hl
              subst el
              obtain ⟨b, xs, rfl, hb, fa⟩ := ow_scr h2
              have := fa.strs
              subst this
              exact ⟨_, .str (Txt.join a ys), rfl, by simp [isSc], fun q => ⟨a, b, ys, rfl, rfl, .inl hb, hz, q⟩⟩
            | _ => cases hl
          · cases e
        · cases e
      · cases e
    · cases e
  · cases e
/-- o.m(e), o a text -/
theorem sa_str1 {id : String} {name : Str} {apos pos : Pos} {o e : Expr} {m me : AE} {f : List Cell → R Cell} {r : V → List V → Hp → VK → Prop} (slot : Slot "str" name id) (ty : typeOf (.builtin id) = pure (.type "method_descriptor")) (rule : MtR X id r) (hs : CallS X (rRecv r) f) (ho : SA X o m) (he : SA X e me)
    (hst : starEach [e] X.env = [(false, eval e X.env)] := by rfl) (hst2 : starEach [e] X.env = (false, eval e X.env) :: starEach [] X.env := by rfl) (hbase : attributeBase o name X.env (eval o X.env) = eval o X.env := by rfl) (hline : (apos.endLine == pos.line) = true := by rfl) :
    SA X (.Call (.Attribute o name apos) [e] [] pos) (mRecv isStrD f m [me]) := by
  obtain ⟨te, q, g2⟩ := he.ex
  obtain ⟨t, p, g⟩ := ho.ex
  refine ⟨_, pe_m1 slot ty rule p q hst hbase hline, fun n σ H w ρ s ρ' Q ok hm k => ?_⟩
  obtain ⟨⟨s1, ρ1⟩, e1, hm⟩ := R.of_bind hm
  dsimp only at hm
  split at hm
  · rename_i hck
    obtain ⟨c0, hc0, hk⟩ := Option.map_eq_some_iff.mp hck
    obtain ⟨⟨ss, ρ2⟩, e2, hm⟩ := R.of_bind hm
    dsimp only at hm e2
    obtain ⟨⟨s2, ρ3⟩, e4, e2⟩ := R.of_bind e2
    cases e2
    split at hm
    · rename_i cs hcs
      obtain ⟨rr, e3, hm⟩ := R.of_bind hm
      cases hm
      refine g n σ H w ρ s1 _ _ ok e1 fun v H1 w1 ok1 st1 sa => ?_
      obtain ⟨o1, _, ow1⟩ := sa.cell ok1 hc0
      refine ⟨?_, ?_⟩
      · obtain ⟨d, kk⟩ := c0
        cases d with
        | str z => exact ⟨z, ow_str ow1⟩
        | _ => cases hk
      · refine g2 (n + 1) σ H1 w1 ρ1 s2 _ _ ok1 e4 fun v2 H2 w2 ok2 st2 sa2 => ?_
        refine hs n H2 w2 σ _ cs [v, v2] rr Q ok2 (SrcsAt.cells (n := n) (ss := [s1, s2]) (vs := [v, v2]) ok2 ⟨sa.step st2 (Nat.lt_succ_self n), sa2, trivial⟩ hcs) e3 fun v3 H3 w3 ok3 st3 q3 => ?_
        exact k v3 H3 w3 ok3 ((st1.trans (st2.mono (Nat.le_succ n))).trans st3) q3
    · cases hm
  · cases hm
end
end Z

/-! Z: what the printed proofs lean on. -/
namespace Z
open PySem PySem.Spec PyProof.Rows L2
theorem u65 {k : Nat} {A : Around} (r : RoomG k A) : A.units + 65 < cLine := by have := r.r.un; omega
theorem u64 {k : Nat} {A : Around} (r : RoomG k A) : A.units + 64 < cLine := by have := r.r.un; omega
theorem u1 {k : Nat} {A : Around} (r : RoomG k A) : A.units + 1 < cLine := by have := r.r.un; omega
def blkB (N : List Str) (sc scope : Scope) (own : List (Str × Nat)) : Bool :=
  decide (scope.kind = .function) && scope.names.all (fun y => decide (scope.names.lookup y.1 = some y.2)) && own.all (fun p => decide (N[p.2]? = some p.1)) &&
  scope.names.all (fun y => !decide (y.2 = .free) || decide (sc.names.lookup y.1 = some .cell) || decide (sc.names.lookup y.1 = some .free)) &&
  scope.names.all (fun y => !(decide (y.2 = .local) || decide (y.2 = .cell)) || decide (y.1 ∈ own.map (·.1)) || decide (y.1 ∉ N))
theorem blk_of {N : List Str} {sc scope : Scope} {own : List (Str × Nat)} (h : blkB N sc scope own = true) : BlkOk N sc scope own := by
  unfold blkB at h
  simp only [Bool.and_eq_true, List.all_eq_true, Bool.or_eq_true, Bool.not_eq_true', decide_eq_true_eq, decide_eq_false_iff_not] at h
  obtain ⟨⟨⟨⟨h1, h2⟩, h3⟩, h4⟩, h5⟩ := h
  refine ⟨h1, h2, h3, fun y hy e => ?_, fun y hy e => ?_⟩
  · rcases h4 y hy with (z | z) | z
    · exact absurd e z
    · exact .inl z
    · exact .inr z
  · rcases h5 y hy with (z | z) | z
    · rcases e with e | e
      · simp [e] at z
      · simp [e] at z
    · exact .inl z
    · exact .inr z
theorem fn_okD {P : Program} {w : World} {K : PySem.W.Frag} {mg : Str → Option Value} {base : Heap} {x qual : Str} {pa : Arguments} {bd : List Stmt} {sc : Scope} {dvs : List V} {kws : List (Str × V)} {f : Addr} {fd : FuncData} {N ps : List Str} {k np size : Nat} {m : MS} (F : FunD K x qual pa bd sc dvs kws f fd) (S : FnScope N ps sc) (hnp : ps.length = np) (hsize : N.length = size)
    (hb : ∀ (cdv : Value) (A : Around) (outer : List PySem.Env) (s : Shared) (H : Hp) (E : XK), RoomG k (A.deeper (envOfC qual sc s.heap.objs.size f cdv)) →
      SSs (cxOf CX0 P w K mg base N qual sc f cdv A outer s H E).nox bd m) : FnOkG P w K mg base CX0 (k + 1) f fd ps (spD K np (runDef size m)) := by
  refine Z.FunD.okG F S (fun vs H Q E h => ?_) (fun cdv A outer s H vs Q E hr h => ?_)
  · obtain ⟨w, args, r, fs, h1, h2, _⟩ := h
    rw [← h2.length, h1, hnp]
  · obtain ⟨w0, args, r, fs, h1, h2, h3, h4, q⟩ := h
    obtain ⟨t, p, g⟩ := (hb cdv A outer s H E hr).ex
    refine ⟨t, p.nox, ?_⟩
    obtain ⟨⟨fl, ρ'⟩, e1, h4⟩ := R.of_bind h4
    obtain ⟨fs', e2, h4⟩ := R.of_bind h4
    have hlv : vs.length = args.length := h2.length.symm
    have hst : ∀ i v, vs[i]? = some v → (L2.start N vs)[i]? = some (some v) := fun i v hv => by
      unfold L2.start
      rw [List.getElem?_append_left (by rw [List.length_map]; exact (List.getElem?_eq_some_iff.mp hv).1), List.getElem?_map, hv]
      rfl
    have ok0 : Ok K H w0 (L2.start N vs) (args.map some ++ List.replicate (size - args.length) none) := by
      refine ⟨?_, fun i c hc => ?_, h3⟩
      · unfold L2.start
        simp only [List.length_append, List.length_map, List.length_replicate]
        rw [hlv, hsize]
      · have hi := env_get_map hc
        obtain ⟨v, hv, ow⟩ := h2.get hi
        rw [Nat.zero_add] at ow
        exact ⟨v, hst i v hv, ow⟩
    refine g 0 (L2.start N vs) H w0 _ (locks 0 args) fl ρ' _ ok0 e1 fun σ' H' w' ok' st' lk => ?_
    have fin := fins_ok (σ := start N vs) ok' (vs := vs) h2.length e2 (fun i v hv => by rw [Nat.zero_add]; exact hst i v hv) (fun i c hc hk => lk _ (locks_mem hc hk))
    cases fl with
    | next =>
      cases h4
      exact q .non H' w' ok'.live st' (.fz .non) fin
    | ret c =>
      cases h4
      exact fun v ow => q v H' w' ok'.live st' ow fin
    | brk => cases h4
    | cont => cases h4
theorem fz_ints {K : PySem.W.Frag} {H : Hp} {w : OM} : ∀ ns : List Int, FzL K H w (ns.map D.int) (ns.map V.int)
  | [] => .nil
  | n :: r => .cons (.int n) (fz_ints r)
/-- the law's answer -/
theorem law_sp {K : PySem.W.Frag} {c : FD} {H : Hp} {a : Addr} {ns : List Int} {fs : List Cell} (hS : SqL K H a (ns.map V.int)) (h : c [⟨.scr (ns.map D.int), 0⟩] = .ok (Cell.fz (.bl true), fs)) : spD K 1 c [.ref a] H (fun v _ => v = .bl true) fun _ _ _ => False := by
  refine ⟨fun _ => .no, [⟨.scr (ns.map D.int), 0⟩], Cell.fz (.bl true), fs, rfl, ⟨?_, trivial⟩, fun _ z => absurd rfl z, h, fun v H' w' _ _ ow _ => ?_⟩
  · refine .fz (.scr ?_ (fz_ints ns))
    rcases hS with h | h
    · exact .inl ⟨h, rfl⟩
    · exact .inr h
  · cases ow with
    | fz f => cases f; rfl
end Z

/-! Z: to compute with the pure functions. -/
namespace Z
open PySem PySem.Spec PyProof.Rows L2
theorem bind_first {α β : Type} {x y : R α} {f : α → R β} (h : x = y) : (x >>= f) = (y >>= f) := by rw [h]
section
variable {L : List Nat} {ρ : Env} {i : Nat}
@[simp] theorem get_z {c : Option Cell} {r : Env} : Env.get (c :: r) 0 = c := rfl
@[simp] theorem get_s {c : Option Cell} {r : Env} {n : Nat} : Env.get (c :: r) (n + 1) = Env.get r n := rfl
@[simp] theorem set_z {c x : Option Cell} {r : Env} : Env.set (c :: r) 0 x = x :: r := rfl
@[simp] theorem set_s {c x : Option Cell} {r : Env} {n : Nat} : Env.set (c :: r) (n + 1) x = c :: Env.set r n x := rfl
@[simp] theorem fz_eq {d : D} : Cell.fz d = ⟨d, 0⟩ := rfl

@[simp] theorem src_v {c : Cell} : Src.cell ρ (.v c) = some c := rfl
@[simp] theorem src_s : Src.cell ρ (.s i) = ρ.get i := rfl
@[simp] theorem aC_ap {d : D} : aC d ρ = .ok (.v (Cell.fz d), ρ) := rfl
theorem aVar_ap : aVar i ρ = (match ρ.get i with | some _ => .ok (.s i, ρ) | none => .bad) := rfl
@[simp] theorem aVar_z {c : Cell} {r : Env} : aVar 0 (some c :: r) = .ok (.s 0, some c :: r) := rfl
theorem aVar_of {c : Cell} (h : ρ.get i = some c) : aVar i ρ = .ok (.s i, ρ) := by unfold aVar; rw [h]
@[simp] theorem evs_nil : evs [] ρ = .ok ([], ρ) := rfl
@[simp] theorem evs_cons {m : AE} {ms : List AE} : evs (m :: ms) ρ = (do let (s, ρ1) ← m ρ; let (ss, ρ2) ← evs ms ρ1; R.ok (s :: ss, ρ2)) := rfl
@[simp] theorem cells_nil : cells ρ [] = some [] := rfl
@[simp] theorem cells_cons {s : Src} {ss : List Src} : cells ρ (s :: ss) = (match s.cell ρ, cells ρ ss with | some c, some cs => some (c :: cs) | _, _ => none) := rfl
@[simp] theorem mPrim_ap {f : List Cell → R Cell} {ms : List AE} : mPrim f ms ρ = (do let (ss, ρ1) ← evs ms ρ; match cells ρ1 ss with | some cs => (do let c ← f cs; R.ok (.v c, ρ1)) | none => R.bad) := rfl
@[simp] theorem esc_v {c : Cell} : esc (.v c) ρ = .ok (c, ρ) := rfl
@[simp] theorem esc_s : esc (.s i) ρ = (match ρ.get i with | some ⟨d, 0⟩ => .ok (Cell.fz d, ρ) | some ⟨d, _ + 1⟩ => .ok (Cell.fz d, ρ.set i (some ⟨d, 0⟩)) | none => .bad) := rfl
@[simp] theorem escs_nil : escs [] ρ = .ok ([], ρ) := rfl
@[simp] theorem escs_cons {s : Src} {ss : List Src} : escs (s :: ss) ρ = (do let (c, ρ1) ← esc s ρ; let (ds, ρ2) ← escs ss ρ1; R.ok (c.d :: ds, ρ2)) := rfl
@[simp] theorem mTup_ap {ms : List AE} : mTup ms ρ = (do let (ss, ρ1) ← evs ms ρ; let (ds, ρ2) ← escs ss ρ1; R.ok (.v (Cell.fz (.tup ds)), ρ2)) := rfl
@[simp] theorem mLst_ap {ms : List AE} : mLst ms ρ = (do let (ss, ρ1) ← evs ms ρ; let (ds, ρ2) ← escs ss ρ1; R.ok (.v ⟨.lst ds, 1⟩, ρ2)) := rfl
@[simp] theorem take_v {c : Cell} : take L (.v c) ρ = .ok (c, ρ) := rfl
@[simp] theorem take_s : take L (.s i) ρ = (match ρ.get i with | some ⟨d, 0⟩ => .ok (Cell.fz d, ρ) | some ⟨d, k + 1⟩ => if L.contains i then .ok (Cell.fz d, ρ.set i (some ⟨d, 0⟩)) else .ok (⟨d, k + 1⟩, ρ.set i none) | none => .bad) := rfl
@[simp] theorem mTest_ap {a : AE} : mTest a ρ = (do let (s, ρ1) ← a ρ; match s.cell ρ1 with | some c => (match truth c.d with | some b => R.ok (b, ρ1) | none => R.bad) | none => R.bad) := rfl
@[simp] theorem mNotT_ap {a : MT} : mNotT a ρ = (do let (b, ρ1) ← a ρ; R.ok (!b, ρ1)) := rfl
@[simp] theorem mAndT_ap {a b : MT} : mAndT a b ρ = (do let (c, ρ1) ← a ρ; if c then b ρ1 else R.ok (false, ρ1)) := rfl
@[simp] theorem mOrT_ap {a b : MT} : mOrT a b ρ = (do let (c, ρ1) ← a ρ; if c then R.ok (true, ρ1) else b ρ1) := rfl
@[simp] theorem mNotV_ap {a : AE} : mNotV a ρ = (do let (b, ρ1) ← mTest a ρ; R.ok (.v (Cell.fz (.bl (!b))), ρ1)) := rfl
@[simp] theorem mAndV_ap {a b : AE} : mAndV a b ρ = (do let (s, ρ1) ← a ρ; match s.cell ρ1 with | some ⟨.bl c, _⟩ => if c then b ρ1 else R.ok (.v (Cell.fz (.bl false)), ρ1) | _ => R.bad) := rfl
@[simp] theorem mOrV_ap {a b : AE} : mOrV a b ρ = (do let (s, ρ1) ← a ρ; match s.cell ρ1 with | some ⟨.bl c, _⟩ => if c then R.ok (.v (Cell.fz (.bl true)), ρ1) else b ρ1 | _ => R.bad) := rfl
@[simp] theorem mIfE_ap {t : MT} {a b : AE} : mIfE t a b ρ = (do let (c, ρ1) ← t ρ; if c then a ρ1 else b ρ1) := rfl
@[simp] theorem mSeq_ap {a b : MS} : mSeq a b L ρ = (do let (fl, ρ1) ← a L ρ; match fl with | .next => b L ρ1 | f => R.ok (f, ρ1)) := rfl
@[simp] theorem mNext_ap : mNext L ρ = .ok (.next, ρ) := rfl
@[simp] theorem mBrk_ap : mBrk L ρ = .ok (.brk, ρ) := rfl
@[simp] theorem mCont_ap : mCont L ρ = .ok (.cont, ρ) := rfl
@[simp] theorem mExpr_ap {m : AE} : mExpr m L ρ = (do let (_, ρ1) ← m ρ; R.ok (.next, ρ1)) := rfl
@[simp] theorem mRet_ap {m : AE} : mRet m L ρ = (do let (s, ρ1) ← m ρ; let (c, ρ2) ← take L s ρ1; R.ok (.ret c, ρ2)) := rfl
@[simp] theorem mRetN_ap : mRetN L ρ = .ok (.ret (Cell.fz .non), ρ) := rfl
@[simp] theorem mSet_ap {m : AE} : mSet i m L ρ = (do let (s, ρ1) ← m ρ; let (c, ρ2) ← take L s ρ1; if L.contains i then R.bad else R.ok (.next, ρ2.set i (some c))) := rfl
@[simp] theorem mIf_ap {t : MT} {a b : MS} : mIf t a b L ρ = (do let (c, ρ1) ← t ρ; if c then a L ρ1 else b L ρ1) := rfl
@[simp] theorem gN_ap {d : D} : gN i d L ρ = if L.contains i then .bad else .ok (ρ.set i (some (Cell.fz d))) := rfl
@[simp] theorem mAsg_ap {g : MG} {m : AE} : mAsg g m L ρ = (do let (s, ρ1) ← m ρ; let (c, ρ2) ← esc s ρ1; let ρ3 ← g c.d L ρ2; R.ok (.next, ρ3)) := rfl
@[simp] theorem gT_ap {n : Nat} {gs : List D → List Nat → Env → R Env} {ds : List D} : gT n gs (.tup ds) L ρ = if ds.length = n then gs ds L ρ else .bad := rfl
@[simp] theorem gsNil_ap : gsNil [] L ρ = .ok ρ := rfl
@[simp] theorem gsCons_ap {g : MG} {gs : List D → List Nat → Env → R Env} {d : D} {r : List D} : gsCons g gs (d :: r) L ρ = (do let ρ1 ← g d L ρ; gs r L ρ1) := rfl
@[simp] theorem mFor_ap {mi : MI} {g : MG} {body : MS} : mFor mi g body L ρ = (do let (it, ρ1) ← mi ρ; loopF it g body (match it.chk with | some i => i :: L | none => L) it.items ρ1) := rfl
@[simp] theorem mItems_ap {a : AE} : mItems a ρ = (do
  let (s, ρ1) ← a ρ
  match s with
  | .v c => match itemsOf c.d with
    | some l => R.ok (⟨l, none⟩, ρ1)
    | none => R.bad
  | .s i => match ρ1.get i with
    | some ⟨d, 0⟩ => match itemsOf d with
      | some l => R.ok (⟨l, none⟩, ρ1)
      | none => R.bad
    | some ⟨.lst l, 1⟩ => R.ok (⟨l, some i⟩, ρ1)
    | some ⟨.lst l, 2⟩ => R.ok (⟨l, none⟩, ρ1.set i (some ⟨.lst l, 0⟩))
    | _ => R.bad) := rfl
@[simp] theorem mRange1_ap {a : AE} : mRange1 a ρ = (do
  let (s, ρ1) ← a ρ
  match s.cell ρ1 with
  | some ⟨.int j, _⟩ => if rgB 0 j then R.ok (⟨rgD 0 j, none⟩, ρ1) else R.bad
  | _ => R.bad) := rfl
@[simp] theorem mRange2_ap {a b : AE} : mRange2 a b ρ = (do
  let (s, ρ1) ← a ρ
  let (u, ρ2) ← b ρ1
  match s.cell ρ2, u.cell ρ2 with
  | some ⟨.int i, _⟩, some ⟨.int j, _⟩ => if rgB i j then R.ok (⟨rgD i j, none⟩, ρ2) else R.bad
  | _, _ => R.bad) := rfl
@[simp] theorem mRg1_ap {a : AE} : mRg1 a ρ = (do let (s, ρ1) ← a ρ; match s.cell ρ1 with | some ⟨.int j, _⟩ => R.ok (((0 : Int), j), ρ1) | _ => R.bad) := rfl
@[simp] theorem mListRg_ap {m : Env → R ((Int × Int) × Env)} : mListRg m ρ = (do let (x, ρ1) ← m ρ; if rgOkB x.1 x.2 then R.ok (.v ⟨.lst (rgD x.1 x.2), 1⟩, ρ1) else R.bad) := rfl
@[simp] theorem mTupRg_ap {m : Env → R ((Int × Int) × Env)} : mTupRg m ρ = (do let (x, ρ1) ← m ρ; if rgOkB x.1 x.2 then R.ok (.v (Cell.fz (.tup (rgD x.1 x.2))), ρ1) else R.bad) := rfl
@[simp] theorem mComp_ap {mi : MI} {g : MG} {tt : MT} {me : AE} {vs : List Nat} : mComp mi g tt me vs ρ = (do
  let (it, ρ1) ← mi ρ
  if ownOk ρ1 vs && decide (it.items.length ≤ 16777216) && chkOk it (wipeE ρ1 vs) then do
    let (acc, ρ2) ← loopC it g tt me vs it.items (wipeE ρ1 vs)
    R.ok (.v ⟨.lst acc, 1⟩, restore ρ2 ρ1 vs)
  else R.bad) := rfl
@[simp] theorem mYes_ap : mYes ρ = .ok (true, ρ) := rfl
@[simp] theorem mSetIx_ap {mi mv : AE} : mSetIx i mi mv L ρ = (do
  let (sv, ρ1) ← mv ρ
  let (c, ρ2) ← esc sv ρ1
  match ρ2.get i with
  | some _ => do
    let (si, ρ3) ← mi ρ2
    match si.cell ρ3, ρ3.get i with
    | some ⟨.int k, _⟩, some ⟨.lst l, 1⟩ => match setD l k c.d with
      | some l' => R.ok (.next, ρ3.set i (some ⟨.lst l', 1⟩))
      | none => R.bad
    | _, _ => R.bad
  | none => R.bad) := rfl
@[simp] theorem mAug_ap {f : List Cell → R Cell} {m : AE} : mAug i f m L ρ = (match ρ.get i with
  | some c0 => do
    let (s, ρ1) ← m ρ
    match s.cell ρ1 with
    | some c => do
      let r ← f [⟨c0.d, 0⟩, c]
      if c0.k = 0 then (if L.contains i then R.bad else R.ok (.next, ρ1.set i (some r))) else R.bad
    | none => R.bad
  | none => R.bad) := rfl
@[simp] theorem mAugIx_ap {mi mv : AE} {f : List Cell → R Cell} : mAugIx i mi f mv L ρ = (match ρ.get i with
  | some _ => do
    let (si, ρ1) ← mi ρ
    match si.cell ρ1, ρ1.get i with
    | some ⟨.int kk, _⟩, some ⟨.lst l, 1⟩ => match atI l kk with
      | some (.int old) => do
        let (sv, ρ2) ← mv ρ1
        match sv.cell ρ2 with
        | some c => do
          let r ← f [⟨.int old, 0⟩, c]
          match r, ρ2.get i with
          | ⟨.int new, _⟩, some ⟨.lst l2, 1⟩ => match setD l2 kk (.int new) with
            | some l' => R.ok (.next, ρ2.set i (some ⟨.lst l', 1⟩))
            | none => R.bad
          | _, _ => R.bad
        | none => R.bad
      | _ => R.bad
    | _, _ => R.bad
  | none => R.bad) := rfl
@[simp] theorem mMeth_ap {f : List D → List D → R (D × List D)} {ms : List AE} : mMeth i f ms ρ = (match ρ.get i with
  | some ⟨.lst _, 1⟩ => do
    let (ss, ρ1) ← evs ms ρ
    let (ds, ρ2) ← escs ss ρ1
    match ρ2.get i with
    | some ⟨.lst l, 1⟩ => do
      let (d, l') ← f l ds
      R.ok (.v (Cell.fz d), ρ2.set i (some ⟨.lst l', 1⟩))
    | _ => R.bad
  | _ => R.bad) := rfl
@[simp] theorem mRecv_ap {chk : D → Bool} {f : List Cell → R Cell} {m : AE} {ms : List AE} : mRecv chk f m ms ρ = (do
  let (s, ρ1) ← m ρ
  match (s.cell ρ1).map (fun c => chk c.d) with
  | some true => do
    let (ss, ρ2) ← evs ms ρ1
    match cells ρ2 (s :: ss) with
    | some cs => do
      let r ← f cs
      R.ok (.v r, ρ2)
    | none => R.bad
  | _ => R.bad) := rfl
@[simp] theorem mCall_ap {f : FD} {ms : List AE} : mCall f ms ρ = (do
  let (ss, ρ1) ← evs ms ρ
  let cs ← args ρ1 ss
  if dupF (ioSlots ρ1 ss) then do
    let (r, fs) ← f cs
    R.ok (.v r, back ρ1 ss fs ρ1)
  else R.bad) := rfl
@[simp] theorem args_nil : args ρ [] = .ok [] := rfl
@[simp] theorem args_cons {s : Src} {ss : List Src} : args ρ (s :: ss) = (do let cs ← args ρ ss; match s.cell ρ with | some c => R.ok (c :: cs) | none => R.bad) := rfl
@[simp] theorem io_nil : ioSlots ρ [] = [] := rfl
@[simp] theorem io_v {c : Cell} {ss : List Src} : ioSlots ρ (.v c :: ss) = ioSlots ρ ss := rfl
@[simp] theorem io_s {ss : List Src} : ioSlots ρ (.s i :: ss) = (match ρ.get i with | some ⟨_, 0⟩ => ioSlots ρ ss | _ => i :: ioSlots ρ ss) := rfl
@[simp] theorem dupF_nil : dupF [] = true := rfl
@[simp] theorem dupF_cons {r : List Nat} : dupF (i :: r) = (!r.contains i && dupF r) := rfl
@[simp] theorem back_nil {ρ0 : Env} {cs : List Cell} : back ρ0 [] cs ρ = ρ := by cases cs <;> rfl
@[simp] theorem back_v {ρ0 : Env} {c c' : Cell} {ss : List Src} {cs : List Cell} : back ρ0 (.v c :: ss) (c' :: cs) ρ = back ρ0 ss cs ρ := rfl
@[simp] theorem back_s {ρ0 : Env} {c' : Cell} {ss : List Src} {cs : List Cell} : back ρ0 (.s i :: ss) (c' :: cs) ρ = (match ρ0.get i with | some ⟨_, 0⟩ => back ρ0 ss cs ρ | _ => back ρ0 ss cs (ρ.set i (some c'))) := rfl
theorem runDef_ap {size : Nat} {m : MS} {as : List Cell} : runDef size m as = (do
  let (fl, ρ) ← m (locks 0 as) (as.map some ++ List.replicate (size - as.length) none)
  let fs ← fins ρ 0 as
  match fl with
  | .ret c => R.ok (c, fs)
  | .next => R.ok (Cell.fz .non, fs)
  | _ => R.bad) := rfl
@[simp] theorem locks_nil {j : Nat} : locks j [] = [] := rfl
@[simp] theorem locks_cons {j : Nat} {c : Cell} {r : List Cell} : locks j (c :: r) = if c.k = 0 then locks (j + 1) r else j :: locks (j + 1) r := rfl
@[simp] theorem fins_nil {j : Nat} : fins ρ j [] = .ok [] := rfl
@[simp] theorem fins_cons {j : Nat} {c : Cell} {r : List Cell} : fins ρ j (c :: r) = (do
    let fs ← fins ρ (j + 1) r
    if c.k = 0 then R.ok (c :: fs) else match ρ.get j with
      | some c' => R.ok (c' :: fs)
      | none => R.bad) := rfl
end
/-! primitives on ints -/
section
variable {i j : Int} {k k' : Nat}
@[simp] theorem p_sub : fSub [⟨.int i, k⟩, ⟨.int j, k'⟩] = .ok (Cell.fz (.int (i - j))) := rfl
@[simp] theorem p_add : fAdd [⟨.int i, k⟩, ⟨.int j, k'⟩] = .ok (Cell.fz (.int (i + j))) := rfl
@[simp] theorem p_iadd : fIAdd [⟨.int i, k⟩, ⟨.int j, k'⟩] = .ok (Cell.fz (.int (i + j))) := rfl
@[simp] theorem p_neg : fNeg [⟨.int i, k⟩] = .ok (Cell.fz (.int (-i))) := rfl
@[simp] theorem p_cmp {p : Int → Int → Bool} : fCmp p [⟨.int i, k⟩, ⟨.int j, k'⟩] = .ok (Cell.fz (.bl (p i j))) := rfl
@[simp] theorem p_int : fInt [⟨.int i, k⟩] = .ok (Cell.fz (.int i)) := rfl
@[simp] theorem p_intB {b : Bool} : fInt [⟨.bl b, k⟩] = .ok (Cell.fz (.int (if b then 1 else 0))) := rfl
@[simp] theorem p_abs : fAbs [⟨.int i, k⟩] = .ok (Cell.fz (.int (if i < 0 then -i else i))) := rfl
theorem p_mul (h : cmul i j = true) : fMul [⟨.int i, k⟩, ⟨.int j, k'⟩] = .ok (Cell.fz (.int (i * j))) := by unfold fMul; simp [h]
theorem p_mulR (h : -(2 ^ 64) < j ∧ j < 2 ^ 64) : fMul [⟨.int i, k⟩, ⟨.int j, k'⟩] = .ok (Cell.fz (.int (i * j))) := p_mul (by unfold cmul; rw [decide_eq_true h]; simp)
theorem p_mulL (h : -(2 ^ 64) < i ∧ i < 2 ^ 64) : fMul [⟨.int i, k⟩, ⟨.int j, k'⟩] = .ok (Cell.fz (.int (i * j))) := p_mul (by unfold cmul; rw [decide_eq_true h]; simp)
theorem p_div (h : 0 < j ∧ j < 1073741824) : fDiv [⟨.int i, k⟩, ⟨.int j, k'⟩] = .ok (Cell.fz (.int (i / j))) := by unfold fDiv fI2; simp [h]
theorem p_pow (h : cpow i j = true) : fPow [⟨.int i, k⟩, ⟨.int j, k'⟩] = .ok (Cell.fz (.int (i ^ j.toNat))) := by unfold fPow fI2; simp [h]
theorem p_shl (h : cpow i j = true) : fShl [⟨.int i, k⟩, ⟨.int j, k'⟩] = .ok (Cell.fz (.int (i * 2 ^ j.toNat))) := by unfold fShl fI2; simp [h]
theorem p_shr (h : 0 ≤ j) : fShr [⟨.int i, k⟩, ⟨.int j, k'⟩] = .ok (Cell.fz (.int (i / 2 ^ j.toNat))) := by unfold fShr fI2; simp [h]
@[simp] theorem p_band : fBand [⟨.int i, k⟩, ⟨.int j, k'⟩] = .ok (Cell.fz (.int (Builtin.bitAnd i j))) := rfl
theorem p_mod (h : 0 < j) : fMod [⟨.int i, k⟩, ⟨.int j, k'⟩] = .ok (Cell.fz (.int (i % j))) := by unfold fMod fI2; simp [h]
@[simp] theorem truth_bl {b : Bool} : truth (.bl b) = some b := rfl
@[simp] theorem truth_lst {l : List D} : truth (.lst l) = some (!l.isEmpty) := rfl
@[simp] theorem truth_tup {l : List D} : truth (.tup l) = some (!l.isEmpty) := rfl
@[simp] theorem len_tup {l : List D} : fLen [⟨.tup l, k⟩] = .ok (Cell.fz (.int l.length)) := rfl
@[simp] theorem len_lst {l : List D} : fLen [⟨.lst l, k⟩] = .ok (Cell.fz (.int l.length)) := rfl
@[simp] theorem len_scr {l : List D} : fLen [⟨.scr l, k⟩] = .ok (Cell.fz (.int l.length)) := rfl
theorem atI_nat {α : Type} {l : List α} {n : Nat} (h : n < l.length) : atI l (n : Int) = some l[n] := by
  unfold atI ixN
  simp [h]
theorem p_ixL {l : List D} {d : D} (hk : k ≤ 1) (h : atI l i = some d) : fIx [⟨.lst l, k⟩, ⟨.int i, k'⟩] = .ok (Cell.fz d) := by
  show (if k ≤ 1 then _ else _) = _
  rw [if_pos hk, h]
theorem p_ixT {l : List D} {d : D} (h : atI l i = some d) : fIx [⟨.tup l, k⟩, ⟨.int i, k'⟩] = .ok (Cell.fz d) := by
  show (match atI l i with | some d => R.ok (Cell.fz d) | none => .bad) = _
  rw [h]
@[simp] theorem ix_0 {a : D} {r : List D} : atI (a :: r) 0 = some a := by
  unfold atI ixN
  simp
end
/-! ### what comes out -/
def Ret {α : Type} (r : R α) (P : α → Prop) : Prop := ∃ x, r = .ok x ∧ P x
theorem Ret.ok {α : Type} {x : α} {P : α → Prop} (h : P x) : Ret (.ok x) P := ⟨x, rfl, h⟩
@[simp] theorem Ret_ok {α : Type} {x : α} {P : α → Prop} : Ret (.ok x) P ↔ P x := ⟨fun ⟨y, e, h⟩ => by cases e; exact h, Ret.ok⟩
theorem Ret.bind {α β : Type} {r : R α} {f : α → R β} {P : α → Prop} {Q : β → Prop} (h : Ret r P) (k : ∀ x, P x → Ret (f x) Q) : Ret (r >>= f) Q := by
  obtain ⟨x, rfl, hx⟩ := h
  exact k x hx
theorem Ret.mono {α : Type} {r : R α} {P Q : α → Prop} (h : Ret r P) (k : ∀ x, P x → Q x) : Ret r Q := by
  obtain ⟨x, rfl, hx⟩ := h
  exact ⟨x, rfl, k x hx⟩
/-- a loop keeps what it keeps; it may end by a return -/
theorem loopF_inv {it : ItD} {g : MG} {body : MS} {L : List Nat} {I : List D → Env → Prop} {P : Cell → Env → Prop} (h : ∀ d r ρ, I (d :: r) ρ → Ret (g d L ρ) fun ρ1 => Ret (body L ρ1) fun x => match x.1 with
      | .ret c => P c x.2
      | .brk => False
      | _ => chkOk it x.2 = true ∧ I r x.2) : ∀ {ds : List D} {ρ : Env}, I ds ρ → Ret (loopF it g body L ds ρ) fun x => match x.1 with
      | .ret c => P c x.2
      | .next => I [] x.2
      | _ => False
  | [], ρ, hI => ⟨_, rfl, hI⟩
  | d :: r, ρ, hI => by
    obtain ⟨ρ1, e1, ⟨fl, ρ2⟩, e2, hx⟩ := h d r ρ hI
    unfold loopF
    rw [e1]
    simp only [R.ok_bind]
    rw [e2]
    simp only [R.ok_bind]
    cases fl with
    | ret c => exact ⟨_, rfl, hx⟩
    | brk => exact hx.elim
    | next => dsimp only at hx ⊢; rw [if_pos hx.1]; exact loopF_inv h hx.2
    | cont => dsimp only at hx ⊢; rw [if_pos hx.1]; exact loopF_inv h hx.2
/-- a loop that never leaves early -/
theorem loopF_go {it : ItD} {g : MG} {body : MS} {L : List Nat} {I : List D → Env → Prop} (h : ∀ d r ρ, I (d :: r) ρ → Ret (g d L ρ) fun ρ1 => Ret (body L ρ1) fun x => (x.1 = .next ∨ x.1 = .cont) ∧ chkOk it x.2 = true ∧ I r x.2) {ds : List D} {ρ : Env} (hI : I ds ρ) :
    ∃ ρ', loopF it g body L ds ρ = .ok (.next, ρ') ∧ I [] ρ' := by
  obtain ⟨⟨fl, ρ'⟩, e, hx⟩ := loopF_inv (it := it) (g := g) (body := body) (L := L) (P := fun _ _ => False) (I := I) (fun d r ρ hI => (h d r ρ hI).mono fun ρ1 h1 => h1.mono fun x hx => by
    rcases hx.1 with e | e <;> rw [e] <;> exact hx.2) hI
  cases fl with
  | ret c => exact hx.elim
  | next => exact ⟨_, e, hx⟩
  | brk => exact hx.elim
  | cont => exact hx.elim
/-- a comprehension: each datum gives one, or none -/
theorem loopC_inv {it : ItD} {g : MG} {tt : MT} {me : AE} {vs : List Nat} {I : List D → List D → Env → Prop} (h : ∀ d r acc ρ, I (d :: r) acc ρ → Ret (g d [] ρ) fun ρa => Ret (tt ρa) fun x =>
      if x.1 = true then Ret (me x.2) fun y => Ret (esc y.1 y.2) fun z => chkOk it (wipeE z.2 vs) = true ∧ I r (acc ++ [z.1.d]) (wipeE z.2 vs) else chkOk it (wipeE x.2 vs) = true ∧ I r acc (wipeE x.2 vs)) :
    ∀ {ds acc : List D} {ρ : Env}, I ds acc ρ → ∃ out ρ', loopC it g tt me vs ds ρ = .ok (out, ρ') ∧ I [] (acc ++ out) ρ'
  | [], acc, ρ, hI => ⟨[], ρ, rfl, by rw [List.append_nil]; exact hI⟩
  | d :: r, acc, ρ, hI => by
    obtain ⟨ρa, e1, ⟨b, ρb⟩, e2, hx⟩ := h d r acc ρ hI
    unfold loopC
    rw [e1]
    simp only [R.ok_bind]
    rw [e2]
    simp only [R.ok_bind]
    cases b with
    | true =>
      rw [if_pos rfl] at hx
      obtain ⟨⟨s, ρc⟩, e3, ⟨c, ρd⟩, e4, e5, hI2⟩ := hx
      obtain ⟨out, ρ', e6, hI3⟩ := loopC_inv h hI2
      dsimp only at e4
      refine ⟨c.d :: out, ρ', ?_, by simpa using hI3⟩
      simp only [if_true]
      rw [e3]
      simp only [R.ok_bind]
      rw [e4]
      simp only [R.ok_bind]
      rw [if_pos e5, e6]
      rfl
    | false =>
      rw [if_neg (by intro z; cases z)] at hx
      obtain ⟨out, ρ', e6, hI3⟩ := loopC_inv h hx.2
      refine ⟨out, ρ', ?_, hI3⟩
      simp only [Bool.false_eq_true, if_false]
      dsimp only at hx
      rw [if_pos hx.1, e6]
end Z

/-! Z: what the laws draw. -/
namespace Z
open PySem PySem.Spec PyProof.Rows L2
def m_begin : MS := (mSeq (mRet (mLst [(mComp (mItems (aVar 0)) (gN 1) mYes (mPrim fInt [(aVar 1)]) [1]), (aC (.int 0)), (aC (.int 0)), (aC (.int 7))])) mNext)
def c_begin : FD := runDef 2 m_begin
def m_draw : MS := (mSeq (mIf (mTest (mPrim fGt [(mPrim fIx [(aVar 0), (aC (.int 2))]), (aC (.int 0))])) (mSeq (mSet 2 (mPrim fIx [(aVar 0), (aC (.int 2))])) (mSeq (mSetIx 0 (aC (.int 2)) (mPrim fDiv [(aVar 2), (aVar 1)])) (mSeq (mRet (mPrim fMod [(mPrim fInt [(aVar 2)]), (aVar 1)])) mNext))) mNext) (mSeq (mSet 3 (aC (.int 0))) (mSeq (mIf (mTest (mPrim fLt [(mPrim fIx [(aVar 0), (aC (.int 1))]), (mPrim fLen [(mPrim fIx [(aVar 0), (aC (.int 0))])])])) (mSeq (mSet 4 (mPrim fIx [(mPrim fIx [(aVar 0), (aC (.int 0))]), (mPrim fIx [(aVar 0), (aC (.int 1))])])) (mSeq (mSet 3 (mPrim fAdd [(mPrim fMul [(aC (.int 2)), (mPrim fAbs [(aVar 4)])]), (mPrim fInt [(mPrim fLt [(aVar 4), (aC (.int 0))])])])) mNext)) mNext) (mSeq (mAugIx 0 (aC (.int 1)) fIAdd (aC (.int 1))) (mSeq (mIf (mTest (mPrim fGe [(aVar 3), (mPrim fMul [(aC (.int 2)), (mPrim fPow [(aC (.int 10)), (aC (.int 18))])])])) (mSeq (mSet 2 (mPrim fMod [(mPrim fInt [(mPrim fDiv [(aVar 3), (aC (.int 2))])]), (mPrim fShl [(aC (.int 1)), (aC (.int 6000))])])) (mSeq (mSetIx 0 (aC (.int 2)) (mPrim fDiv [(aVar 2), (aVar 1)])) (mSeq (mRet (mPrim fMod [(mPrim fInt [(aVar 2)]), (aVar 1)])) mNext))) mNext) (mSeq (mSetIx 0 (aC (.int 3)) (mPrim fMod [(mPrim fInt [(mPrim fAdd [(mPrim fAdd [(mPrim fAdd [(mPrim fMul [(mPrim fIx [(aVar 0), (aC (.int 3))]), (aC (.int 48271))]), (mPrim fMul [(mPrim fMod [(mPrim fInt [(aVar 3)]), (aC (.int 2147483629))]), (aC (.int 16807))])]), (mPrim fMul [(mPrim fIx [(aVar 0), (aC (.int 1))]), (aC (.int 69621))])]), (aC (.int 11))])]), (aC (.int 2147483647))])) (mSeq (mRet (mPrim fMod [(mPrim fInt [(mPrim fDiv [(mPrim fIx [(aVar 0), (aC (.int 3))]), (aC (.int 16))])]), (aVar 1)])) mNext)))))))
def c_draw : FD := runDef 5 m_draw
def m_pick : MS := (mSeq (mRet (mPrim fIx [(aVar 1), (mCall c_draw [(aVar 0), (mPrim fLen [(aVar 1)])])])) mNext)
def c_pick : FD := runDef 2 m_pick
def m_rare : MS := (mSeq (mRet (mPrim fEq [(mCall c_draw [(aVar 0), (aVar 1)]), (mPrim fDiv [(aVar 1), (aC (.int 2))])])) mNext)
def c_rare : FD := runDef 2 m_rare
def m_shuffled : MS := (mSeq (mSet 2 (mPrim fList [(aVar 1)])) (mSeq (mSet 3 (mLst [])) (mSeq (mFor (mRange1 (mPrim fLen [(aVar 2)])) (gN 4) (mSeq (mExpr (mMeth 3 fAppend [(mMeth 2 fPop1 [(mCall c_draw [(aVar 0), (mPrim fLen [(aVar 2)])])])])) mNext)) (mSeq (mRet (aVar 3)) mNext))))
def c_shuffled : FD := runDef 5 m_shuffled
/-- the state that is drawn from -/
def dS (ns : List Int) (a b e : Int) : Cell := ⟨.lst [.lst (ns.map D.int), .int a, .int b, .int e], 1⟩
def DSt (c : Cell) : Prop := ∃ (ns : List Int) (a b e : Int), c = dS ns a b e ∧ 0 ≤ a ∧ 0 ≤ b ∧ 0 ≤ e
theorem draw_ok {c : Cell} {many : Int} (h : DSt c) (h0 : 0 < many) (h1 : many < 1073741824) : ∃ (n : Int) (c' : Cell), c_draw [c, ⟨.int many, 0⟩] = .ok (⟨.int n, 0⟩, [c', ⟨.int many, 0⟩]) ∧ DSt c' ∧ 0 ≤ n ∧ n < many := by
  obtain ⟨ns, a, b, e, rfl, ha, hb, he⟩ := h
  have hm : ∀ x : Int, 0 ≤ x % many ∧ x % many < many := fun x => ⟨Int.emod_nonneg _ (by omega), Int.emod_lt_of_pos _ h0⟩
  have i1 : ∀ (x y z t : D), atI [x, y, z, t] 1 = some y := fun _ _ _ _ => rfl
  have i2 : ∀ (x y z t : D), atI [x, y, z, t] 2 = some z := fun _ _ _ _ => rfl
  have i3 : ∀ (x y z t : D), atI [x, y, z, t] 3 = some t := fun _ _ _ _ => rfl
  have s1 : ∀ (x y z t u : D), setD [x, y, z, t] 1 u = some [x, u, z, t] := fun _ _ _ _ _ => rfl
  have s2 : ∀ (x y z t u : D), setD [x, y, z, t] 2 u = some [x, y, u, t] := fun _ _ _ _ _ => rfl
  have s3 : ∀ (x y z t u : D), setD [x, y, z, t] 3 u = some [x, y, z, u] := fun _ _ _ _ _ => rfl
  unfold c_draw m_draw
  by_cases hb0 : 0 < b
  · refine ⟨b % many, dS ns a (b / many) e, ?_, ⟨ns, a, b / many, e, rfl, ha, Int.ediv_nonneg hb (by omega), he⟩, hm b⟩
    simp [runDef_ap, dS, Env.get, Env.set, aVar_ap, p_ixL, i1, i2, i3, s1, s2, s3, hb0, p_div, p_mod, h0, h1]
  · have hb1 : b = 0 := by omega
    have c1 : cpow 10 18 = true := rfl
    have c2 : cpow 1 6000 = true := rfl
    have big : (0 : Int) < 2 ^ 6000 := by exact Int.pow_pos (by decide)
    by_cases ha1 : a < ns.length
    · obtain ⟨x, hx⟩ : ∃ x : Int, atI (ns.map D.int) a = some (.int x) := by
        obtain ⟨m, rfl⟩ := Int.eq_ofNat_of_zero_le ha
        refine ⟨ns[m]'(by simpa using ha1), ?_⟩
        rw [atI_nat (by simpa using ha1)]
        simp
      obtain ⟨z, hz, hz0⟩ : ∃ z : Int, z = 2 * (if x < 0 then -x else x) + (if x < 0 then 1 else 0) ∧ 0 ≤ z := ⟨_, rfl, by split <;> omega⟩
      by_cases hs : 2000000000000000000 ≤ z
      · refine ⟨z / 2 % 2 ^ 6000 % many, dS ns (a + 1) (z / 2 % 2 ^ 6000 / many) e, ?_, ⟨ns, _, _, e, rfl, by omega, Int.ediv_nonneg (Int.emod_nonneg _ (by omega)) (by omega), he⟩, hm _⟩
        simp [runDef_ap, dS, Env.get, Env.set, aVar_ap, p_ixL, i1, i2, i3, s1, s2, s3, hb1, p_div, p_mod, p_mulL, p_mulR, p_pow, p_shl, c1, c2, h0, h1, ha1, hx, ← hz, hs, big]
      · refine ⟨((e * 48271 + z % 2147483629 * 16807 + (a + 1) * 69621 + 11) % 2147483647) / 16 % many, dS ns (a + 1) 0 ((e * 48271 + z % 2147483629 * 16807 + (a + 1) * 69621 + 11) % 2147483647), ?_, ⟨ns, _, _, _, rfl, by omega, by omega, Int.emod_nonneg _ (by decide)⟩, hm _⟩
        simp [runDef_ap, dS, Env.get, Env.set, aVar_ap, p_ixL, i1, i2, i3, s1, s2, s3, hb1, p_div, p_mod, p_mulL, p_mulR, p_pow, p_shl, c1, c2, h0, h1, ha1, hx, ← hz, hs, big]
    · have hs : ¬ (2000000000000000000 : Int) ≤ 0 := by decide
      refine ⟨((e * 48271 + 0 % 2147483629 * 16807 + (a + 1) * 69621 + 11) % 2147483647) / 16 % many, dS ns (a + 1) 0 ((e * 48271 + 0 % 2147483629 * 16807 + (a + 1) * 69621 + 11) % 2147483647), ?_, ⟨ns, _, _, _, rfl, by omega, by omega, Int.emod_nonneg _ (by decide)⟩, hm _⟩
      simp [runDef_ap, dS, Env.get, Env.set, aVar_ap, p_ixL, i1, i2, i3, s1, s2, s3, hb1, p_div, p_mod, p_mulL, p_mulR, p_pow, p_shl, c1, c2, h0, h1, ha1,  hs, big]
/-- the script's numbers -/
theorem begin_ok {ns : List Int} (hl : ns.length ≤ 63) : c_begin [⟨.scr (ns.map D.int), 0⟩] = .ok (dS ns 0 0 7, [⟨.scr (ns.map D.int), 0⟩]) := by
  obtain ⟨out, ρ', e, hI⟩ := loopC_inv (it := ⟨ns.map D.int, none⟩) (g := gN 1) (tt := mYes) (me := mPrim fInt [aVar 1]) (vs := [1]) (I := fun l acc ρ => acc ++ l = ns.map D.int ∧ (∀ d ∈ l, ∃ i : Int, d = .int i) ∧ ρ = [some ⟨.scr (ns.map D.int), 0⟩, none])
    (fun d r acc ρ ⟨h1, h2, h3⟩ => by
      obtain ⟨i, rfl⟩ := h2 d (List.mem_cons_self ..)
      subst h3
      simp [aVar_ap, wipeE, chkOk, ← h1]
      exact fun x hx => h2 x (List.mem_cons_of_mem _ hx)) (ds := ns.map D.int) (acc := []) (ρ := [some ⟨.scr (ns.map D.int), 0⟩, none]) ⟨rfl, by simp, rfl⟩
  obtain ⟨h1, _, h3⟩ := hI
  subst h3
  simp only [List.nil_append, List.append_nil] at h1
  subst h1
  have hl : ns.length ≤ 16777216 := by omega
  simp [c_begin, m_begin, runDef_ap, itemsOf, aVar_ap, ownOk, chkOk, wipeE, restore, e, dS, hl]
theorem DSt.k {c : Cell} (h : DSt c) : ∃ l, c = ⟨.lst l, 1⟩ := by
  obtain ⟨ns, a, b, e, rfl, _⟩ := h
  exact ⟨_, rfl⟩
theorem get_mem {l : List D} {n : Int} (h : 0 ≤ n) (h1 : n < l.length) : ∃ d, atI l n = some d ∧ d ∈ l := by
  obtain ⟨m, rfl⟩ := Int.eq_ofNat_of_zero_le h
  have hm : m < l.length := by omega
  exact ⟨l[m], atI_nat hm, List.getElem_mem hm⟩
theorem pick_lst {c : Cell} {l : List D} {k : Nat} (h : DSt c) (hk : k ≤ 1) (h0 : 0 < l.length) (h1 : l.length < 1073741824) : ∃ (d : D) (c' : Cell), c_pick [c, ⟨.lst l, k⟩] = .ok (⟨d, 0⟩, [c', ⟨.lst l, k⟩]) ∧ DSt c' ∧ d ∈ l := by
  obtain ⟨n, c', e, hc, hn⟩ := draw_ok (many := (l.length : Int)) h (by omega) (by omega)
  obtain ⟨m, rfl⟩ := h.k
  obtain ⟨m', rfl⟩ := hc.k
  obtain ⟨d, hd, hm⟩ := get_mem hn.1 hn.2
  refine ⟨d, _, ?_, hc, hm⟩
  obtain rfl | rfl : k = 0 ∨ k = 1 := by omega
  all_goals simp [c_pick, m_pick, runDef_ap, aVar_ap, e, p_ixL, hd]
theorem pick_tup {c : Cell} {l : List D} (h : DSt c) (h0 : 0 < l.length) (h1 : l.length < 1073741824) : ∃ (d : D) (c' : Cell), c_pick [c, ⟨.tup l, 0⟩] = .ok (⟨d, 0⟩, [c', ⟨.tup l, 0⟩]) ∧ DSt c' ∧ d ∈ l := by
  obtain ⟨n, c', e, hc, hn⟩ := draw_ok (many := (l.length : Int)) h (by omega) (by omega)
  obtain ⟨m, rfl⟩ := h.k
  obtain ⟨m', rfl⟩ := hc.k
  obtain ⟨d, hd, hm⟩ := get_mem hn.1 hn.2
  refine ⟨d, _, ?_, hc, hm⟩
  simp [c_pick, m_pick, runDef_ap, aVar_ap, e, p_ixT, hd]
theorem pick_str {c : Cell} {z : Str} (h : DSt c) (h0 : 0 < z.length) (h1 : z.length ≤ 16777216) : ∃ (s : Nat) (c' : Cell), c_pick [c, ⟨.str z, 0⟩] = .ok (⟨.str ⟨#[s]⟩, 0⟩, [c', ⟨.str z, 0⟩]) ∧ DSt c' ∧ s ∈ z.cps.toList := by
  obtain ⟨n, c', e, hc, hn⟩ := draw_ok (many := (z.length : Int)) h (by omega) (by omega)
  obtain ⟨m, rfl⟩ := h.k
  obtain ⟨m', rfl⟩ := hc.k
  obtain ⟨j, rfl⟩ := Int.eq_ofNat_of_zero_le hn.1
  have hj : j < z.cps.toList.length := by have := hn.2; show j < z.cps.toList.length; rw [Array.length_toList]; exact Int.ofNat_lt.mp this
  have hd := atI_nat hj
  refine ⟨z.cps.toList[j], _, ?_, hc, List.getElem_mem hj⟩
  have hx : fIx [⟨.str z, 0⟩, ⟨.int (j : Int), 0⟩] = .ok ⟨.str ⟨#[z.cps.toList[j]]⟩, 0⟩ := by
    show (if z.length ≤ 16777216 then _ else _) = _
    rw [if_pos h1, hd]
    rfl
  have hl : fLen [⟨.str z, 0⟩] = .ok ⟨.int z.length, 0⟩ := by
    show (if z.length ≤ 16777216 then _ else _) = _
    rw [if_pos h1]
    rfl
  simp [c_pick, m_pick, runDef_ap, aVar_ap, e, hx, hl]
theorem rare_ok {c : Cell} {many : Int} (h : DSt c) (h0 : 0 < many) (h1 : many < 1073741824) : ∃ (b : Bool) (c' : Cell), c_rare [c, ⟨.int many, 0⟩] = .ok (⟨.bl b, 0⟩, [c', ⟨.int many, 0⟩]) ∧ DSt c' := by
  obtain ⟨n, c', e, hc, hn⟩ := draw_ok h h0 h1
  obtain ⟨m, rfl⟩ := h.k
  obtain ⟨m', rfl⟩ := hc.k
  refine ⟨(D.int n).eqv (.int (many / 2)), _, ?_, hc⟩
  simp [c_rare, m_rare, runDef_ap, aVar_ap, e, p_div, fEq, D.okd]
theorem erase_perm : ∀ {l : List D} {m : Nat} (h : m < l.length), (l[m] :: l.eraseIdx m).Perm l
  | a :: l, 0, _ => List.Perm.refl _
  | a :: l, m + 1, h => (List.Perm.swap _ _ _).trans ((erase_perm (l := l) (m := m) (by simpa using h)).cons a)
theorem pop_ok {l : List D} {n : Int} (h : 0 ≤ n) (h1 : n < l.length) (hl : l.length < 1073741824) : ∃ d l', fPop1 l [.int n] = .ok (d, l') ∧ (d :: l').Perm l := by
  obtain ⟨m, rfl⟩ := Int.eq_ofNat_of_zero_le h
  have hm : m < l.length := by omega
  refine ⟨l[m], l.eraseIdx m, ?_, erase_perm hm⟩
  have e : seqIndex? (m : Int) l.length = some m := by
    unfold seqIndex?
    have : ¬ ((m : Int) < 0) := by omega
    simp [this, hm]
  unfold fPop1
  simp only [e]
  rw [if_pos ⟨by omega, by omega⟩, List.getElem?_eq_getElem hm]
theorem rgB_nat {n : Nat} (h : n ≤ 16777216) : rgB 0 (n : Int) = true := by
  unfold rgB
  rw [decide_eq_true_eq]
  omega
theorem rgD_nat {n : Nat} : rgD 0 (n : Int) = (List.range n).map fun (i : Nat) => D.int (i : Int) := by
  unfold rgD
  simp
theorem shuffled_ok {c : Cell} {l : List D} {k : Nat} (h : DSt c) (hk : k ≤ 1) (h1 : l.length ≤ 16777216) : ∃ (l' : List D) (c' : Cell), c_shuffled [c, ⟨.lst l, k⟩] = .ok (⟨.lst l', 1⟩, [c', ⟨.lst l, k⟩]) ∧ DSt c' ∧ l'.Perm l := by
  obtain ⟨ρ', e, hI⟩ := loopF_go (it := ⟨rgD 0 (l.length : Int), none⟩) (g := gN 4) (body := mSeq (mExpr (mMeth 3 fAppend [mMeth 2 fPop1 [mCall c_draw [aVar 0, mPrim fLen [aVar 2]]]])) mNext) (L := locks 0 [c, ⟨.lst l, k⟩])
    (I := fun r ρ => ∃ c' left found x, ρ = [some c', some ⟨.lst l, k⟩, some ⟨.lst left, 1⟩, some ⟨.lst found, 1⟩, x] ∧ DSt c' ∧ left.length = r.length ∧ (found ++ left).Perm l)
    (fun d r ρ ⟨c', left, found, x, h1, h2, h3, h4⟩ => by
      subst h1
      have hlen := h4.length_eq
      rw [List.length_append, h3, List.length_cons] at hlen
      obtain ⟨n, c2, e, hc, hn⟩ := draw_ok (many := (left.length : Int)) h2 (by rw [h3, List.length_cons]; omega) (by rw [h3, List.length_cons]; omega)
      obtain ⟨y, left', e2, hp⟩ := pop_ok (l := left) hn.1 hn.2 (by rw [h3, List.length_cons]; omega)
      obtain ⟨m, rfl⟩ := h.k
      obtain ⟨m1, rfl⟩ := h2.k
      obtain ⟨m2, rfl⟩ := hc.k
      have hf : found.length < 16777216 := by omega
      have e3 : fAppend found [y] = .ok (.non, found ++ [y]) := by unfold fAppend; simp [hf]
      have hl' : left'.length = r.length := by have := hp.length_eq; rw [h3] at this; simpa using this
      have hp2 : (found ++ [y] ++ left').Perm l := by
        rw [List.append_assoc]
        exact (List.Perm.append_left found hp).trans h4
      obtain rfl | rfl : k = 0 ∨ k = 1 := by omega
      all_goals simp -implicitDefEqProofs [aVar_ap, e, e2, e3, chkOk]

      all_goals exact ⟨_, _, _, ⟨rfl, rfl, rfl⟩, hc, hl', hp2⟩)
    (ds := rgD 0 (l.length : Int)) (ρ := [some c, some ⟨.lst l, k⟩, some ⟨.lst l, 1⟩, some ⟨.lst [], 1⟩, none]) ⟨c, l, [], none, rfl, h, by rw [rgD_length]; omega, by simp⟩
  obtain ⟨c', left, found, x, rfl, h2, h3, h4⟩ := hI
  obtain ⟨m, rfl⟩ := h.k
  obtain ⟨m1, rfl⟩ := h2.k
  have : left = [] := List.length_eq_zero_iff.mp h3
  subst this
  refine ⟨found, _, ?_, h2, by simpa using h4⟩
  have hL : fList [⟨.lst l, k⟩] = .ok ⟨.lst l, 1⟩ := by
    show (if k ≤ 1 then _ else _) = _
    rw [if_pos hk]
  obtain rfl | rfl : k = 0 ∨ k = 1 := by omega
  all_goals
    simp only [locks_cons, locks_nil] at e
    simp at e
    simp -implicitDefEqProofs [c_shuffled, m_shuffled, runDef_ap, aVar_ap, hL, rgB_nat h1, e]
end Z

namespace Z
open PySem PySem.Spec PyProof.Rows L2
/-! ### texts -/
def Wd (z : Str) : Prop := z.length ≤ 1921 ∧ D.okd.strOk z = true
theorem strOk_iff {z : Str} : D.okd.strOk z = true ↔ ∀ c ∈ z.cps.toList, c < 0x110000 := by
  unfold D.okd.strOk
  rw [← Array.all_toList, List.all_eq_true]
  simp
theorem app_cps {x y : Str} : (x ++ y).cps = x.cps ++ y.cps := rfl
theorem app_len {x y : Str} : (x ++ y).length = x.length + y.length := by show (x.cps ++ y.cps).size = _; rw [Array.size_append]; rfl
theorem strOk_app {x y : Str} (h : D.okd.strOk x = true) (h' : D.okd.strOk y = true) : D.okd.strOk (x ++ y) = true := by
  rw [strOk_iff] at *
  intro c hc
  rw [app_cps, Array.toList_append, List.mem_append] at hc
  exact hc.elim (h c) (h' c)
theorem strOk_one {c : Nat} (h : c < 0x110000) : D.okd.strOk ⟨#[c]⟩ = true := by
  rw [strOk_iff]
  intro d hd
  simp at hd
  omega
theorem log2_small {i : Int} (h : i.natAbs < 10 ^ 20) : i.natAbs.log2 < 1920 := by
  by_cases h0 : i.natAbs = 0
  · rw [h0]; decide
  · have := Nat.log2_lt h0 (k := 67)
    have : i.natAbs.log2 < 67 := this.mpr (by omega)
    omega
def tS (i : Int) : Str := Str.ofString (toString i)
theorem wd_int {i : Int} (h : i.natAbs < 10 ^ 20) : Wd (tS i) := by
  refine ⟨int_text_len_1921 (log2_small h), ?_⟩
  rw [strOk_iff]
  unfold tS
  rw [Str.ofString_eq_toList]
  intro c hc
  simp at hc
  obtain ⟨a, ha, rfl⟩ := hc
  have := int_ascii i a ha
  omega
theorem f_str {i : Int} {k : Nat} (h : i.natAbs < 10 ^ 20) : fStr [⟨.int i, k⟩] = .ok ⟨.str (tS i), 0⟩ := by
  show (if i.natAbs.log2 < 1920 then _ else _) = _
  rw [if_pos (log2_small h)]
  rfl
theorem strOk_join {a : Str} (ha : D.okd.strOk a = true) : ∀ {ws : List Str}, (∀ w ∈ ws, D.okd.strOk w = true) → D.okd.strOk (Str.join a ws) = true
  | [], _ => by
    show D.okd.strOk Str.empty = true
    decide +kernel
  | [x], h => h x (List.mem_cons_self ..)
  | x :: y :: r, h => strOk_app (strOk_app (h x (List.mem_cons_self ..)) ha) (strOk_join ha fun w hw => h w (List.mem_cons_of_mem _ hw))
theorem sum_wd : ∀ {ws : List Str}, (∀ w ∈ ws, Wd w) → (ws.map (·.length)).sum ≤ ws.length * 1921
  | [], _ => by simp
  | x :: r, h => by
    have := (h x (List.mem_cons_self ..)).1
    have := sum_wd (ws := r) fun w hw => h w (List.mem_cons_of_mem _ hw)
    simp only [List.map_cons, List.sum_cons, List.length_cons]
    omega
/-- " ".join(words) -/
theorem f_join {ws : List Str} {k : Nat} (hk : k ≤ 1) (h : ∀ w ∈ ws, Wd w) (hl : ws.length ≤ 5000) : fJoin [⟨.str " ", 0⟩, ⟨.lst (ws.map D.str), k⟩] = .ok ⟨.str (Txt.join " " ws), 0⟩ := by
  unfold fJoin
  simp only [itemsT, asStrs_map]
  rw [if_pos hk, if_pos]
  · rfl
  · have := sum_wd h
    have e : Str.length (" " : Str) = 1 := by decide +kernel
    rw [e]
    omega
theorem join_ok {ws : List Str} (h : ∀ w ∈ ws, Wd w) : D.okd.strOk (Txt.join " " ws) = true := by
  unfold Txt.join
  rw [StrLaws.glued_eq_join]
  exact strOk_join (by decide +kernel) fun w hw => (h w hw).2
/-! ### == of scalars -/
theorem f_eqS {x y : Str} {k k' : Nat} (h : D.okd.strOk x = true) (h' : D.okd.strOk y = true) : fEq [⟨.str x, k⟩, ⟨.str y, k'⟩] = .ok ⟨.bl (decide (x = y)), 0⟩ := by
  unfold fEq
  have e : D.eqv (.str x) (.str y) = decide (x = y) := by
    show (x == y) = _
    by_cases q : x = y <;> simp [q]
  simp only [D.okd, h, h', Bool.and_true, if_true, e]
  rfl
@[simp] theorem f_eqI {i j : Int} {k k' : Nat} : fEq [⟨.int i, k⟩, ⟨.int j, k'⟩] = .ok ⟨.bl (decide (i = j)), 0⟩ := by
  unfold fEq
  have e : D.eqv (.int i) (.int j) = decide (i = j) := by
    show (i == j) = _
    by_cases q : i = j <;> simp [q]
  simp only [D.okd, Bool.and_true, if_true, e]
  rfl
/-! ### the computing, with proofs of each step -/
@[simp] theorem isi_str {x : Str} {k : Nat} : fIsi "str" [⟨.str x, k⟩] = .ok ⟨.bl true, 0⟩ := by unfold fIsi; simp [isT]
theorem f_app {l : List D} {d : D} (h : l.length ≤ 10000) : fAppend l [d] = .ok (.non, l ++ [d]) := by
  unfold fAppend
  simp only
  rw [if_pos (by omega)]
theorem f_ext {l m : List D} (h : l.length ≤ 10000) (h' : m.length ≤ 10000) : fExtend l [.lst m] = .ok (.non, l ++ m) := by
  unfold fExtend
  simp only
  rw [if_pos (by omega)]
theorem f_addL {l m : List D} {k k' : Nat} (hk : k ≤ 1) (hk' : k' ≤ 1) (h : l.length ≤ 10000) (h' : m.length ≤ 10000) : fAdd [⟨.lst l, k⟩, ⟨.lst m, k'⟩] = .ok ⟨.lst (l ++ m), 1⟩ := by
  unfold fAdd
  simp only
  rw [if_pos ⟨hk, hk', by omega⟩]
@[simp] theorem f_listT {l : List D} {k : Nat} : fList [⟨.tup l, k⟩] = .ok ⟨.lst l, 1⟩ := rfl
@[simp] theorem f_tupL1 {l : List D} : fTuple [⟨.lst l, 1⟩] = .ok ⟨.tup l, 0⟩ := rfl
@[simp] theorem ix_1 {a b : D} {r : List D} : atI (a :: b :: r) 1 = some b := by
  have h : 1 < (a :: b :: r).length := by simp
  exact (atI_nat h).trans rfl
@[simp] theorem ix_2 {a b c : D} {r : List D} : atI (a :: b :: c :: r) 2 = some c := by
  have h : 2 < (a :: b :: c :: r).length := by simp
  exact (atI_nat h).trans rfl
@[simp] theorem ix_3 {a b c d : D} {r : List D} : atI (a :: b :: c :: d :: r) 3 = some d := by
  have h : 3 < (a :: b :: c :: d :: r).length := by simp
  exact (atI_nat h).trans rfl

theorem small_le {n : Nat} (h : n ≤ 5000) : n ≤ 16777216 := by omega
/-- a comprehension without a condition over frozen data: elt is computed from the datum -/
theorem comp_map {g : MG} {me : AE} {vs : List Nat} {ρ0 : Env} {f : D → D} {it : ItD} (hit : it.chk = none) {ds : List D} (h : ∀ d ∈ ds, ∃ ρa s ρc ρd k, g d [] (wipeE ρ0 vs) = .ok ρa ∧ me ρa = .ok (s, ρc) ∧ esc s ρc = .ok (⟨f d, k⟩, ρd) ∧ wipeE ρd vs = wipeE ρ0 vs) :
    loopC it g mYes me vs ds (wipeE ρ0 vs) = .ok (ds.map f, wipeE ρ0 vs) := by
  induction ds with
  | nil => rfl
  | cons d r ih =>
    obtain ⟨ρa, s, ρc, ρd, k, e1, e2, e3, e4⟩ := h d (List.mem_cons_self ..)
    unfold loopC
    have ec : chkOk it (wipeE ρ0 vs) = true := by unfold chkOk; rw [hit]
    rw [e1]
    simp only [R.ok_bind, mYes_ap, if_true]
    rw [e2]
    simp only [R.ok_bind]
    rw [e3]
    simp only [R.ok_bind]
    rw [e4, if_pos ec, ih fun x hx => h x (List.mem_cons_of_mem _ hx)]
    rfl
end Z

/-! Z: calls by keywords. -/
namespace Z
open PySem PySem.Spec PyProof.Rows L2
theorem pe_callK0 {X : Cx} {CX : CXT} {k : Nat} {f : Addr} {fd : FuncData} {ps ks : List Str} {sp : Sp} {E : XK} {x : Str} {p pos : Pos} {kws : List Keyword} {tk : TA} {g : List Value → List Value → List Value} {gV : List V → List V → List V}
    (F : FnOkG X.prog X.w X.K X.mg X.base CX k f fd ps sp) (hr : RoomG k X.A) (hg : Gl X x) (hm : X.mg x = some (.ref f)) (hk : PySem.W.keepIn X.K (.ref f) = true) (hb : KBinds X.K fd ps ks g gV) (hx : Passes CX X E) (hkw : PK X kws tk)
    (hall : (backToKw pos (keywordEach kws X.env)).all (·.1.isSome) = true) (hks : (backToKw pos (keywordEach kws X.env)).filterMap (·.1) = ks) (hdb : (x == ("__debug__" : Str)) = false)
    (hpl : ((backTo pos (starEach [] X.env)).any (·.1) || (backToKw pos (keywordEach kws X.env)).any (·.1.isNone)) = false) :
    PE X (.Call (.Name x p) [] kws pos) (fun σ H Q => tk σ H fun zs H2 => sp (gV [] zs) H2 Q E) := by
  refine ⟨fun pins s σ H Q I h => ?_⟩
  refine wpAny_Call_Name_kw (ld_glob I hg hm ?_ hdb)
  refine PySem.W.callWith_KW0 (h₀ := X.base) I.ok.mod.kin hk hall ?_ hpl
  refine thn (hkw.run pos pins s σ H _ I h) fun ws s2 ⟨zs, H2, I2, rz, q2⟩ => ⟨I2.kIn, ?_⟩
  rw [hks]
  exact callGk (us := []) (vs := []) F hr hb hx I2 .nil rz q2
structure SKs (X : Cx) (kws : List Keyword) (ms : List AE) : Prop where
  ex : ∃ t, PK X kws t ∧ ∀ (n : Nat) (σ : L2.St) (H : Hp) (w : OM) (ρ : Env) (ss : List Src) (ρ' : Env) (Q : List V → Hp → Prop), Ok X.K H w σ ρ → evs ms ρ = .ok (ss, ρ') →
    (∀ vs H' w', Ok X.K H' w' σ ρ' → Step n H w H' w' → SrcsAt X.K H' w' σ n ss vs → Q vs H') → t σ H Q
theorem sk_nil {X : Cx} : SKs X [] [] := ⟨_, pk_nil, fun n σ H w ρ ss ρ' Q ok h k => by
  cases h
  exact k [] H w ok Step.refl trivial⟩
theorem sk_cons {X : Cx} {e : Expr} {m : AE} {kws : List Keyword} {ms : List AE} {nm : Option Str} {kpos : Pos} (ha : SA X e m) (hr : SKs X kws ms) : SKs X (⟨nm, e, kpos⟩ :: kws) (m :: ms) := by
  obtain ⟨t, p, h⟩ := ha.ex
  obtain ⟨u, q, g⟩ := hr.ex
  refine ⟨_, pk_cons p q, fun n σ H w ρ ss ρ' Q ok hm k => ?_⟩
  obtain ⟨⟨s, ρ1⟩, e1, hm⟩ := R.of_bind hm
  obtain ⟨⟨ss2, ρ2⟩, e2, hm⟩ := R.of_bind hm
  cases hm
  refine h n σ H w ρ s ρ1 _ ok e1 fun v H1 w1 ok1 st1 s1 => ?_
  refine g (n + 1) σ H1 w1 ρ1 ss2 _ _ ok1 e2 fun vs H2 w2 ok2 st2 s2 => ?_
  exact k _ H2 w2 ok2 (st1.trans (st2.mono (Nat.le_succ n))) ⟨s1.step st2 (Nat.lt_succ_self n), s2⟩
/-! put in another order -/
def reord {α : Type} (perm : List Nat) (l : List α) : List α := perm.filterMap (l[·]?)
def kwV {α : Type} (perm : List Nat) (n : Nat) (us ws : List α) : List α := if us.isEmpty && decide (ws.length = n) then reord perm ws else []
theorem vals_get {vs : List V} {us : List Value} (h : Vals vs us) (i : Nat) : (vs[i]? = none ∧ us[i]? = none) ∨ ∃ v u, vs[i]? = some v ∧ us[i]? = some u ∧ RelV v u := by
  induction h generalizing i with
  | nil => exact .inl ⟨rfl, rfl⟩
  | cons r t ih => cases i with
    | zero => exact .inr ⟨_, _, rfl, rfl, r⟩
    | succ i => simpa using ih i
theorem vals_reord {perm : List Nat} {vs : List V} {us : List Value} (h : Vals vs us) : Vals (reord perm vs) (reord perm us) := by
  induction perm with
  | nil => exact .nil
  | cons i r ih =>
    unfold reord at ih ⊢
    rcases vals_get h i with ⟨e1, e2⟩ | ⟨v, u, e1, e2, rv⟩
    · rw [List.filterMap_cons_none e1, List.filterMap_cons_none e2]; exact ih
    · rw [List.filterMap_cons_some e1, List.filterMap_cons_some e2]; exact .cons rv ih
theorem kb_of {K : PySem.W.Frag} {x qual : Str} {params : Arguments} {body : List Stmt} {scope : Scope} {kws : List (Str × V)} {f : Addr} {fd : FuncData} {ps ks : List Str} {perm : List Nat} (F : FunD K x qual params body scope [] kws f fd) (hps : ps.length ≠ 0)
    (h : ∀ (kV doc pm : Value) (an : Option Addr) (cdv ct : Value) (ws : List Value), ws.length = ks.length → bindArgs (PySem.W.fnOf x qual params body scope .none kV doc pm an cdv ct) ⟨[], ks.zip ws⟩ = pure (ps.zip (reord perm ws))) :
    KBinds K fd ps ks (kwV perm ks.length) (kwV perm ks.length) := by
  obtain ⟨oc, od, dV, kV, doc, pm, an, cdv, ct, osl, rfl, lk, hcd, hD, hK⟩ := F.ex
  rcases hD with ⟨_, rfl⟩ | ⟨e, _⟩
  · refine ⟨fun s us ws X hl => ?_, fun {vs us zs ws} r1 r2 => ?_⟩
    · unfold kwV at hl ⊢
      split at hl
      · rename_i hc
        rw [if_pos hc]
        rw [Bool.and_eq_true, decide_eq_true_eq, List.isEmpty_iff] at hc
        obtain ⟨rfl, hc⟩ := hc
        exact .of_eq (h kV doc pm an cdv ct ws hc)
      · exact absurd hl.symm hps
    · unfold kwV
      have e1 : vs.isEmpty = us.isEmpty := by cases r1 <;> rfl
      rw [e1, r2.length]
      split
      · exact vals_reord r2
      · exact .nil
  · exact absurd rfl e
/-- may stand anywhere among the arguments: a slot, or frozen -/
def Src.free : Src → Bool
  | .s _ => true
  | .v c => decide (c.k = 0)
theorem SrcAt.any {K : PySem.W.Frag} {H : Hp} {w : OM} {σ : L2.St} {n m : Nat} {s : Src} {v : V} (h : SrcAt K H w σ n s v) (hf : s.free = true) : SrcAt K H w σ m s v := by
  cases s with
  | s i => exact h
  | v c =>
    obtain ⟨d, k⟩ := c
    cases (of_decide_eq_true hf : k = 0)
    cases (show Ow K H w (.tm n) 0 d v from h) with
    | fz q => exact .fz q
theorem SrcsAt.get {K : PySem.W.Frag} {H : Hp} {w : OM} {σ : L2.St} : ∀ {ss : List Src} {vs : List V} {n i : Nat}, SrcsAt K H w σ n ss vs → (ss[i]? = none ∧ vs[i]? = none) ∨ ∃ s v, ss[i]? = some s ∧ vs[i]? = some v ∧ SrcAt K H w σ (n + i) s v
  | [], [], _, _, _ => .inl ⟨rfl, rfl⟩
  | [], _ :: _, _, _, h => h.elim
  | _ :: _, [], _, _, h => h.elim
  | s :: ss, v :: vs, n, 0, ⟨h, t⟩ => .inr ⟨s, v, rfl, rfl, h⟩
  | s :: ss, v :: vs, n, i + 1, ⟨h, t⟩ => by
    rcases SrcsAt.get (i := i) t with ⟨e1, e2⟩ | ⟨s', v', e1, e2, q⟩
    · exact .inl ⟨by simpa using e1, by simpa using e2⟩
    · exact .inr ⟨s', v', by simpa using e1, by simpa using e2, by rw [show n + (i + 1) = n + 1 + i by omega]; exact q⟩
theorem SrcsAt.reord {K : PySem.W.Frag} {H : Hp} {w : OM} {σ : L2.St} {ss : List Src} {vs : List V} {n : Nat} (h : SrcsAt K H w σ n ss vs) (hf : ss.all Src.free = true) : ∀ {perm : List Nat} {m : Nat}, SrcsAt K H w σ m (Z.reord perm ss) (Z.reord perm vs)
  | [], _ => trivial
  | i :: r, m => by
    have ih := fun m => SrcsAt.reord h hf (perm := r) (m := m)
    unfold Z.reord at ih ⊢
    rcases h.get (i := i) with ⟨e1, e2⟩ | ⟨s, v, e1, e2, q⟩
    · rw [List.filterMap_cons_none e1, List.filterMap_cons_none e2]; exact ih m
    · rw [List.filterMap_cons_some e1, List.filterMap_cons_some e2]
      exact ⟨q.any (List.all_eq_true.mp hf s (List.mem_of_getElem? e1)), ih (m + 1)⟩
def mCallKw (f : FD) (perm : List Nat) (np : Nat) (ms : List AE) : AE := fun ρ => do
  let (ss, ρ1) ← evs ms ρ
  let cs ← args ρ1 (reord perm ss)
  if ss.all Src.free && decide ((reord perm ss).length = np) && dupF (ioSlots ρ1 (reord perm ss)) then do
    let (r, fs) ← f cs
    R.ok (.v r, back ρ1 (reord perm ss) fs ρ1)
  else R.bad
/-- f(k = e, ..) -/
theorem sa_callKw {X : Cx} {x : Str} {p pos : Pos} {kws : List Keyword} {ms : List AE} {f : FD} {fa : Addr} {fd : FuncData} {ps ks : List Str} {perm : List Nat} {k np nk : Nat} (F : FnOkG X.prog X.w X.K X.mg X.base CX0 k fa fd ps (spD X.K np f)) (hr : RoomG k X.A) (hm : X.mg x = some (.ref fa)) (hk : PySem.W.keepIn X.K (.ref fa) = true) (hb : KBinds X.K fd ps ks (kwV perm nk) (kwV perm nk))
    (ha : SKs X kws ms) (hnk : ms.length = nk := by rfl) (hg : Gl X x := by rfl) (hdb : (x == ("__debug__" : Str)) = false := by decide) (hall : (backToKw pos (keywordEach kws X.env)).all (·.1.isSome) = true := by rfl) (hks : (backToKw pos (keywordEach kws X.env)).filterMap (·.1) = ks := by rfl)
    (hpl : ((backTo pos (starEach [] X.env)).any (·.1) || (backToKw pos (keywordEach kws X.env)).any (·.1.isNone)) = false := by rfl) : SA X (.Call (.Name x p) [] kws pos) (mCallKw f perm np ms) := by
  obtain ⟨t, q, g⟩ := ha.ex
  refine ⟨_, pe_callK0 F hr hg hm hk hb pass0 q hall hks hdb hpl, fun n σ H w ρ s ρ' Q ok hm k => ?_⟩
  obtain ⟨⟨ss, ρ1⟩, e1, hm⟩ := R.of_bind hm
  obtain ⟨cs, e2, hm⟩ := R.of_bind hm
  dsimp only at hm e2
  split at hm
  · rename_i hc
    obtain ⟨⟨r, fs⟩, e3, hm⟩ := R.of_bind hm
    cases hm
    simp only [Bool.and_eq_true, decide_eq_true_eq] at hc
    obtain ⟨⟨hc1, hc2⟩, hc3⟩ := hc
    refine g n σ H w ρ ss ρ1 _ ok e1 fun vs H1 w1 ok1 st1 sa => ?_
    have hv : kwV perm nk [] vs = reord perm vs := by
      unfold kwV
      rw [← sa.length, evs_length e1, hnk]
      simp
    rw [hv]
    exact call_sem ok1 (sa.reord hc1) e2 hc3 e3 hc2 fun v H' w' ok' st' ow => k v H' w' ok' (st1.trans st') ow
  · cases hm
@[simp] theorem mCallKw_ap {f : FD} {perm : List Nat} {np : Nat} {ms : List AE} {ρ : Env} : mCallKw f perm np ms ρ = (do
  let (ss, ρ1) ← evs ms ρ
  let cs ← args ρ1 (reord perm ss)
  if ss.all Src.free && decide ((reord perm ss).length = np) && dupF (ioSlots ρ1 (reord perm ss)) then do
    let (r, fs) ← f cs
    R.ok (.v r, back ρ1 (reord perm ss) fs ρ1)
  else R.bad) := rfl
end Z

/-! Z: equality, membership, numbers: what many laws need. -/
namespace Z
open PySem PySem.Spec PyProof.Rows L2
theorem eqvAll_self : ∀ {l : List D}, (∀ d ∈ l, d.eqv d = true) → PyData.eqvAll (D.pyL l) (D.pyL l) = true
  | [], _ => rfl
  | d :: r, h => by
    unfold D.pyL PyData.eqvAll
    rw [Bool.and_eq_true]
    exact ⟨h d (List.mem_cons_self ..), eqvAll_self fun x hx => h x (List.mem_cons_of_mem _ hx)⟩
theorem eqv_self : ∀ (n : Nat) (d : D), d.okd n = true → d.eqv d = true
  | n, .non, _ => rfl
  | n, .bl b, _ => by show (b == b) = true; simp
  | n, .int i, _ => by show (i == i) = true; simp
  | n, .str x, _ => by show (x == x) = true; simp
  | 0, .tup l, h => by cases h
  | 0, .lst l, h => by cases h
  | 0, .scr l, h => by cases h
  | 0, .dct _ _, h => by cases h
  | n + 1, .tup l, h => by
    show PyData.eqvAll (D.pyL l) (D.pyL l) = true
    exact eqvAll_self fun d hd => eqv_self n d (List.all_eq_true.mp h d hd)
  | n + 1, .lst l, h => by
    show PyData.eqvAll (D.pyL l) (D.pyL l) = true
    exact eqvAll_self fun d hd => eqv_self n d (List.all_eq_true.mp h d hd)
  | n + 1, .scr l, h => by
    show PyData.eqvAll (D.pyL l) (D.pyL l) = true
    exact eqvAll_self fun d hd => eqv_self n d (List.all_eq_true.mp h d hd)
  | n + 1, .dct _ _, h => by cases h
theorem f_eqSelf {d : D} {k k' : Nat} (h : d.okd 60 = true) : fEq [⟨d, k⟩, ⟨d, k'⟩] = .ok ⟨.bl true, 0⟩ := by
  unfold fEq
  simp only [h, Bool.and_true, if_true, eqv_self 60 d h]
  rfl
theorem f_neSelf {d : D} {k k' : Nat} (h : d.okd 60 = true) : fNe [⟨d, k⟩, ⟨d, k'⟩] = .ok ⟨.bl false, 0⟩ := by
  unfold fNe
  simp only [h, Bool.and_true, if_true, eqv_self 60 d h]
  rfl
/-- numbers of things -/
def nL (ps : List Nat) : List D := ps.map fun (i : Nat) => D.int (i : Int)
def nD (ps : List Nat) : D := .tup (nL ps)
def iL (is : List Int) : List D := is.map D.int
def iD (is : List Int) : D := .tup (iL is)
theorem nL_iL (ps : List Nat) : nL ps = iL (ps.map fun (i : Nat) => (i : Int)) := by unfold nL iL; rw [List.map_map]; rfl
theorem okd_iL {is : List Int} : (iL is).all (D.okd 59) = true := by
  unfold iL
  rw [List.all_map, List.all_eq_true]
  intro i _
  rfl
theorem okd_iD {is : List Int} : (iD is).okd 60 = true := okd_iL
theorem okd_nD {ps : List Nat} : (nD ps).okd 60 = true := by unfold nD; rw [nL_iL]; exact okd_iL
theorem any_iL {is : List Int} {i : Int} : ((iL is).any fun z => z.eqv (.int i)) = decide (i ∈ is) := by
  unfold iL
  induction is with
  | nil => simp
  | cons a r ih =>
    rw [List.map_cons, List.any_cons, ih]
    show ((a == i) || _) = _
    by_cases h : a = i
    · simp [h]
    · have : ¬ i = a := fun e => h e.symm
      simp [h, this]
theorem in_iD {is : List Int} {i : Int} {k k' : Nat} : fIn false [⟨.int i, k⟩, ⟨iD is, k'⟩] = .ok ⟨.bl (decide (i ∈ is)), 0⟩ := by
  unfold fIn inB iD
  have h1 : (D.int i).okd 60 = true := rfl
  have h2 : (D.tup (iL is)).okd 60 = true := okd_iL
  simp only [h1, h2, Bool.and_true, if_true, R.ok_bind, any_iL, Bool.false_bne]
  simp
theorem notIn_iD {is : List Int} {i : Int} {k k' : Nat} : fIn true [⟨.int i, k⟩, ⟨iD is, k'⟩] = .ok ⟨.bl (decide (i ∉ is)), 0⟩ := by
  unfold fIn inB iD
  have h1 : (D.int i).okd 60 = true := rfl
  have h2 : (D.tup (iL is)).okd 60 = true := okd_iL
  simp only [h1, h2, Bool.and_true, if_true, R.ok_bind, any_iL]
  simp
theorem in_nD {ps : List Nat} {i k k' : Nat} : fIn false [⟨.int (i : Int), k⟩, ⟨nD ps, k'⟩] = .ok ⟨.bl (decide (i ∈ ps)), 0⟩ := by
  have : nD ps = iD (ps.map fun (i : Nat) => (i : Int)) := by unfold nD iD; rw [nL_iL]
  rw [this, in_iD]
  have e : ((i : Int) ∈ ps.map fun (i : Nat) => (i : Int)) ↔ i ∈ ps := by
    rw [List.mem_map]
    exact ⟨fun ⟨a, ha, h⟩ => by rw [← Int.ofNat_inj.mp h]; exact ha, fun h => ⟨i, h, rfl⟩⟩
  simp only [e]
theorem notIn_nD {ps : List Nat} {i k k' : Nat} : fIn true [⟨.int (i : Int), k⟩, ⟨nD ps, k'⟩] = .ok ⟨.bl (decide (i ∉ ps)), 0⟩ := by
  have : nD ps = iD (ps.map fun (i : Nat) => (i : Int)) := by unfold nD iD; rw [nL_iL]
  rw [this, notIn_iD]
  have e : ((i : Int) ∈ ps.map fun (i : Nat) => (i : Int)) ↔ i ∈ ps := by
    rw [List.mem_map]
    exact ⟨fun ⟨a, ha, h⟩ => by rw [← Int.ofNat_inj.mp h]; exact ha, fun h => ⟨i, h, rfl⟩⟩
  simp only [e]
theorem rgD_nL {n : Nat} : rgD 0 (n : Int) = nL (List.range n) := rgD_nat
theorem ix_iD {is : List Int} {p k k' : Nat} (h : p < is.length) : fIx [⟨iD is, k⟩, ⟨.int (p : Int), k'⟩] = .ok ⟨.int (is.getD p 0), 0⟩ := by
  have h' : p < (iL is).length := by unfold iL; simpa using h
  refine p_ixT ((atI_nat h').trans ?_)
  have e : (iL is)[p] = .int is[p] := by simp only [iL, List.getElem_map]
  rw [e]
  simp [List.getElem?_eq_getElem h]
/-! ### more of the laws' own small defs -/
def m_is_int : MS := (mSeq (mRet (mAndV (mPrim (fIsi "int") [(aVar 0)]) (mNotV (mPrim (fIsi "bool") [(aVar 0)])))) mNext)
def c_is_int : FD := runDef 1 m_is_int
def m_is_ints : MS := (mSeq (mRet (mAndV (mPrim (fIsi "tuple") [(aVar 0)]) (mPrim fAll [(mComp (mItems (aVar 0)) (gN 1) mYes (mCall c_is_int [(aVar 1)]) [1])]))) mNext)
def c_is_ints : FD := runDef 2 m_is_ints
@[simp] theorem isi_int_int {x : Int} {k : Nat} : fIsi "int" [⟨.int x, k⟩] = .ok ⟨.bl true, 0⟩ := by unfold fIsi; simp [isT]
@[simp] theorem isi_bool_int {x : Int} {k : Nat} : fIsi "bool" [⟨.int x, k⟩] = .ok ⟨.bl false, 0⟩ := by unfold fIsi; simp [isT]
@[simp] theorem isi_tup_tup {x : List D} {k : Nat} : fIsi "tuple" [⟨.tup x, k⟩] = .ok ⟨.bl true, 0⟩ := by unfold fIsi; simp [isT]
theorem is_int_ok {i : Int} : c_is_int [⟨.int i, 0⟩] = .ok (⟨.bl true, 0⟩, [⟨.int i, 0⟩]) := by
  simp -implicitDefEqProofs [c_is_int, m_is_int, runDef_ap, aVar_ap]
theorem is_ints_ok {is : List Int} (hl : is.length ≤ 5000) : c_is_ints [⟨iD is, 0⟩] = .ok (⟨.bl true, 0⟩, [⟨iD is, 0⟩]) := by
  have e := comp_map (g := gN 1) (me := mCall c_is_int [aVar 1]) (vs := [1]) (ρ0 := [some ⟨iD is, 0⟩, none]) (it := ⟨iL is, none⟩) (f := fun _ => .bl true) rfl (ds := iL is) (fun d hd => by
    obtain ⟨i, hi, rfl⟩ := List.mem_map.mp hd
    refine ⟨[some ⟨iD is, 0⟩, some ⟨.int i, 0⟩], .v ⟨.bl true, 0⟩, [some ⟨iD is, 0⟩, some ⟨.int i, 0⟩], [some ⟨iD is, 0⟩, some ⟨.int i, 0⟩], 0, ?_, ?_, rfl, ?_⟩
    · simp [wipeE]
    · simp -implicitDefEqProofs [aVar_ap, is_int_ok]
    · simp [wipeE])
  have ea : fAll [⟨.lst ((iL is).map fun _ => D.bl true), 1⟩] = .ok ⟨.bl true, 0⟩ := by
    have : ∀ l : List D, asBls (l.map fun _ => D.bl true) = some (l.map fun _ => true) := fun l => by
      induction l with
      | nil => rfl
      | cons a r ih => rw [List.map_cons, asBls, ih]; rfl
    unfold fAll onBls
    simp only [this]
    simp
  have hl2 : (iL is).length ≤ 16777216 := by unfold iL; simp; omega
  unfold iD at *
  simp [wipeE] at e
  simp -implicitDefEqProofs [c_is_ints, m_is_ints, runDef_ap, aVar_ap, itemsOf, ownOk, chkOk, hl2, wipeE, e, restore, ea]
end Z

/-! Z: sorted(..) of ints and of pairs of ints. -/
namespace Z
open PySem PySem.Spec PyProof.Rows L2
/-- the values and their pairs -/
def PairsAt (K : PySem.W.Frag) (H : Hp) : List V → List (Int × Int) → Prop
  | [], [] => True
  | x :: xs, p :: ps => (∃ t, x = .ref t ∧ SqT K H t [.int p.1, .int p.2]) ∧ PairsAt K H xs ps
  | _, _ => False
def rSortedPF (K : PySem.W.Frag) : List V → Hp → VK → Prop := fun vs H Q => ∃ (a : Addr) (xs : List V) (ps : List (Int × Int)), vs = [V.ref a] ∧ SqL K H a xs ∧ PairsAt K H xs ps ∧
  ∀ (zs : List (V × (Int × Int))) (p : Addr), zs.Perm (xs.zip ps) → zs.Pairwise (fun y z => SrtO.lexB z.2 y.2 = false) → H p = none → Q (.ref p) (upd H p (.lst (zs.map (·.1))))
/-- the two ints of a tuple in the heap -/
def pairOf (h : Heap) (v : Value) : Int × Int := ((TS.intsOf h v).getD 0 0, (TS.intsOf h v).getD 1 0)
def fwV : V → Value
  | .ref a => .ref a
  | _ => .none
theorem pairs_zip {X : Cx} {pins : List (Addr × Obj)} {σ : L2.St} {H : Hp} {s : Shared} (I : Inv X pins σ H s) : ∀ {xs : List V} {ps : List (Int × Int)}, PairsAt X.K H xs ps → (∀ x ∈ xs, ∃ t, x = V.ref t ∧ Srt.IsPair s.heap (Value.ref t) (pairOf s.heap (Value.ref t)).1 (pairOf s.heap (Value.ref t)).2) ∧ (xs.zip ps = xs.map fun x => (x, pairOf s.heap (fwV x))) ∧ ps.length = xs.length
  | [], [], _ => ⟨fun _ h => by simp at h, rfl, rfl⟩
  | [], _ :: _, h => h.elim
  | _ :: _, [], h => h.elim
  | x :: xs, p :: ps, ⟨⟨t, e, ht⟩, hr⟩ => by
    obtain ⟨h1, h2, h3⟩ := pairs_zip I hr
    subst e
    have hi : TS.intsOf s.heap (.ref t) = [p.1, p.2] := (tupI_raw (ns := [p.1, p.2]) I ht).ints
    have hp : pairOf s.heap (.ref t) = p := by unfold pairOf; rw [hi]; rfl
    refine ⟨fun y hy => ?_, ?_, by simp [h3]⟩
    · rcases List.mem_cons.mp hy with rfl | hy
      · refine ⟨t, rfl, ?_⟩
        rw [hp]
        obtain ⟨its, rv, hT, _⟩ := I.tuple ht
        obtain ⟨u1, u2, rfl, ri, rj⟩ := vals2 rv
        obtain ⟨t1, rfl⟩ := ri
        obtain ⟨t2, rfl⟩ := rj
        obtain ⟨o, ho, hc, n, hd⟩ := hT
        exact ⟨t, o, t1, t2, n, rfl, ho, hc, hd⟩
      · exact h1 y hy
    · rw [List.zip_cons_cons, h2, List.map_cons]
      have : fwV (V.ref t) = Value.ref t := rfl
      rw [this, hp]
theorem cr_sortedPF {X : Cx} : CallR X (.builtin "sorted") (rSortedPF X.K) := by
  intro pins s σ H vs us Q I r h
  obtain ⟨a, xs, ps, rfl, hs, hx, q⟩ := h
  obtain ⟨its, rv, hl, hz⟩ := I.list hs
  obtain ⟨u, rfl, ru⟩ := vals1 r
  obtain rfl : u = Value.ref a := ru
  obtain ⟨hp, hzip, hlen⟩ := pairs_zip I hx
  obtain ⟨e1, e2⟩ := refs_back rv fun x m => by
    obtain ⟨t, e, _⟩ := hp x m
    exact ⟨t, e⟩
  have kf : ∀ u ∈ its, fwV (backV u) = u := fun u hu => by
    obtain ⟨t, rfl⟩ := e2 u hu
    rfl
  refine SrtO.sorted_pairsO (k := pairOf s.heap) hl.isList (by rw [← rv.length]; exact hz) (fun v hv => ?_) fun h' d out h1 h2 kp hd hn => ?_
  · obtain ⟨t, rfl⟩ := e2 v hv
    have hm : V.ref t ∈ xs := by rw [e1]; exact List.mem_map.mpr ⟨_, hv, rfl⟩
    obtain ⟨t', e, ht⟩ := hp _ hm
    cases e
    exact ht
  · have h3 : ∀ u ∈ out, ∃ a, u = Value.ref a := fun u hu => e2 u (h2.perm.mem_iff.mp hu)
    obtain ⟨n, hn⟩ := hn
    have hperm : (out.map backV).Perm xs := by rw [e1]; exact h2.perm.map backV
    have hq := q (out.map fun u => (backV u, pairOf s.heap u)) d (by
      rw [hzip, e1, List.map_map]
      have : its.map ((fun x => (x, pairOf s.heap (fwV x))) ∘ backV) = its.map fun u => (backV u, pairOf s.heap u) := List.map_congr_left fun u hu => by
        show (backV u, pairOf s.heap (fwV (backV u))) = _
        rw [kf u hu]
      rw [this]
      exact h2.perm.map _) (by
      rw [List.pairwise_map]
      exact List.Pairwise.imp (fun h => h) h1) (I.hok.fresh hd)
    rw [List.map_map] at hq
    refine ⟨.ref d, upd H d (.lst (out.map backV)), I.laid (t' := s.toks) kp hd ⟨?_, out, n, vals_back h3, hn⟩, rfl, hq⟩
    rw [hperm.length_eq]
    exact hz
def isort (ns : List Int) : List Int := ns.mergeSort fun a b => decide (a ≤ b)
theorem isort_perm {ns : List Int} : (isort ns).Perm ns := List.mergeSort_perm ..
theorem isort_sorted {ns : List Int} : (isort ns).Pairwise (· ≤ ·) := by
  have h := List.pairwise_mergeSort (le := fun a b : Int => decide (a ≤ b)) (fun a b c h1 h2 => by simp at *; omega) (fun a b => by simp; omega) ns
  exact h.imp fun h => by simpa using h
theorem isort_uniq {ns ms : List Int} (hp : ms.Perm ns) (hs : ms.Pairwise (· ≤ ·)) : ms = isort ns :=
  List.Perm.eq_of_pairwise (le := (· ≤ ·)) (fun a b _ _ h1 h2 => Int.le_antisymm h1 h2) hs isort_sorted (hp.trans isort_perm.symm)
def pLe (p q : Int × Int) : Bool := !SrtO.lexB q p
theorem pLe_iff {p q : Int × Int} : pLe p q = true ↔ p.1 < q.1 ∨ (p.1 = q.1 ∧ p.2 ≤ q.2) := by
  unfold pLe
  rw [Bool.not_eq_true', SrtO.lexB_no]
  omega
def psort (ps : List (Int × Int)) : List (Int × Int) := ps.mergeSort pLe
theorem psort_perm {ps : List (Int × Int)} : (psort ps).Perm ps := List.mergeSort_perm ..
theorem psort_sorted {ps : List (Int × Int)} : (psort ps).Pairwise fun p q => pLe p q = true :=
  List.pairwise_mergeSort (fun a b c h1 h2 => by rw [pLe_iff] at *; omega) (fun a b => by rw [Bool.or_eq_true, pLe_iff, pLe_iff]; omega) ps
theorem psort_uniq {ns ms : List (Int × Int)} (hp : ms.Perm ns) (hs : ms.Pairwise fun p q => pLe p q = true) : ms = psort ns :=
  List.Perm.eq_of_pairwise (le := fun p q => pLe p q = true) (fun a b _ _ h1 h2 => by
    rw [pLe_iff] at h1 h2
    exact Prod.ext (by omega) (by omega)) hs psort_sorted (hp.trans psort_perm.symm)
def pairD (p : Int × Int) : D := .tup [.int p.1, .int p.2]
def asPairs : List D → Option (List (Int × Int))
  | [] => some []
  | .tup [.int i, .int j] :: r => match asPairs r with
    | some ps => some ((i, j) :: ps)
    | none => none
  | _ :: _ => none
theorem asPairs_map : ∀ ps : List (Int × Int), asPairs (ps.map pairD) = some ps
  | [] => rfl
  | p :: r => by
    show (match asPairs (r.map pairD) with | some ps => some ((p.1, p.2) :: ps) | none => none) = _
    rw [asPairs_map r]
theorem asPairs_eq : ∀ {l : List D} {ps : List (Int × Int)}, asPairs l = some ps → l = ps.map pairD
  | [], ps, h => by cases h; rfl
  | d :: r, ps, h => by
    unfold asPairs at h
    split at h
    · rename_i heq
      exact absurd heq (by simp)
    · rename_i i j r' heq
      cases heq
      split at h
      · rename_i ps' hps
        cases h
        rw [asPairs_eq hps]
        rfl
      · cases h
    · cases h
def fSort : List Cell → R Cell
  | [⟨.lst l, k⟩] => if k ≤ 1 then match asInts l with
      | some ns => .ok ⟨.lst ((isort ns).map D.int), 1⟩
      | none => match asPairs l with
        | some ps => .ok ⟨.lst ((psort ps).map pairD), 1⟩
        | none => .bad
    else .bad
  | _ => .bad
theorem pairs_at {K : PySem.W.Frag} {H : Hp} {w : OM} : ∀ {ps : List (Int × Int)} {xs : List V}, FzL K H w (ps.map pairD) xs → PairsAt K H xs ps
  | [], [], _ => trivial
  | [], _ :: _, h => by cases h
  | p :: ps, [], h => by cases h
  | p :: ps, x :: xs, .cons h t => by
    refine ⟨?_, pairs_at t⟩
    cases h with
    | tup ta fa =>
      have : _ = [p.1, p.2].map V.int := FzL.ints (ns := [p.1, p.2]) fa
      subst this
      exact ⟨_, rfl, ta.sq⟩
theorem fz_zip {K : PySem.W.Frag} {H : Hp} {w : OM} : ∀ {ps : List (Int × Int)} {xs : List V}, FzL K H w (ps.map pairD) xs → ∀ z ∈ xs.zip ps, Fz K H w (pairD z.2) z.1
  | [], [], _, z, hz => by simp at hz
  | [], _ :: _, h, _, _ => by cases h
  | p :: ps, [], h, _, _ => by cases h
  | p :: ps, x :: xs, .cons h t, z, hz => by
    rw [List.zip_cons_cons, List.mem_cons] at hz
    rcases hz with rfl | hz
    · exact h
    · exact fz_zip t z hz
theorem fz_of {K : PySem.W.Frag} {H : Hp} {w : OM} : ∀ {zs : List (V × (Int × Int))}, (∀ z ∈ zs, Fz K H w (pairD z.2) z.1) → FzL K H w ((zs.map (·.2)).map pairD) (zs.map (·.1))
  | [], _ => .nil
  | z :: zs, h => .cons (h z (List.mem_cons_self ..)) (fz_of fun y hy => h y (List.mem_cons_of_mem _ hy))
theorem fzl_len {K : PySem.W.Frag} {H : Hp} {w : OM} {ps : List (Int × Int)} {xs : List V} (h : FzL K H w (ps.map pairD) xs) : ps.length = xs.length := by
  have := h.length
  simpa using this
section
variable {X : Cx}
theorem call_sortAll : CallR X (.builtin "sorted") (fun xs H Q => rSortedI X.K xs H Q ∨ rSortedPF X.K xs H Q) := cr_sortedI.or cr_sortedPF
theorem s_sort : CallS X (fun xs H Q => rSortedI X.K xs H Q ∨ rSortedPF X.K xs H Q) fSort := by
  intro n H w σ ρ cs vs c Q ok ow e k
  unfold fSort at e
  split at e
  · rename_i l kk
    split at e
    · rename_i hk
      split at e
      · rename_i ns hn
        cases e
        obtain ⟨v, o, rfl, h1⟩ := ow.one
        obtain ⟨a, xs, rfl, ta, la, fa⟩ := ow_lst h1
        have hl := asInts_eq hn
        subst hl
        have := (fa hk).ints
        subst this
        refine .inl ⟨a, ns, rfl, .inl (.inl ta), fun ns' p hp hs hq => ?_⟩
        have := isort_uniq hp hs
        subst this
        exact k _ _ (w.put p (.tm n)) (ok.new hq _) (Step.new hq) (.lst upd_same OM.put_same ((fz_ints _).step (Kp.new hq .no)))
      · split at e
        · rename_i ps hn
          cases e
          obtain ⟨v, o, rfl, h1⟩ := ow.one
          obtain ⟨a, xs, rfl, ta, la, fa⟩ := ow_lst h1
          have hl := asPairs_eq hn
          subst hl
          have ff := fa hk
          refine .inr ⟨a, xs, ps, rfl, .inl (.inl ta), pairs_at ff, fun zs p hp hs hq => ?_⟩
          have e2 : zs.map (·.2) = psort ps := by
            refine psort_uniq ?_ ?_
            · have := hp.map (·.2)
              rw [List.map_snd_zip (by rw [fzl_len ff]; exact Nat.le_refl _)] at this
              exact this
            · rw [List.pairwise_map]
              exact hs.imp fun h => by unfold pLe; rw [h]; rfl
          have f2 := fz_of (K := X.K) (H := H) (w := w) (zs := zs) fun z hz => fz_zip ff z (hp.mem_iff.mp hz)
          rw [e2] at f2
          exact k _ _ (w.put p (.tm n)) (ok.new hq _) (Step.new hq) (.lst upd_same OM.put_same (f2.step (Kp.new hq .no)))
        · cases e
    · cases e
  · cases e
end
end Z

/-! Z: loops and comprehensions by a state, drawing by functions. -/
namespace Z
open PySem PySem.Spec PyProof.Rows L2
@[simp] theorem aVar_s {i : Nat} {ρ : Env} : aVar i ρ = (match ρ.get i with | some _ => .ok (.s i, ρ) | none => .bad) := rfl
@[simp] theorem runDef_s {size : Nat} {m : MS} {as : List Cell} : runDef size m as = (do
  let (fl, ρ) ← m (locks 0 as) (as.map some ++ List.replicate (size - as.length) none)
  let fs ← fins ρ 0 as
  match fl with
  | .ret c => R.ok (c, fs)
  | .next => R.ok (Cell.fz .non, fs)
  | _ => R.bad) := rfl
@[simp] theorem chk_none {l : List D} {ρ : Env} : chkOk ⟨l, none⟩ ρ = true := rfl
@[simp] theorem chk_some {l : List D} {i : Nat} {ρ : Env} : chkOk ⟨l, some i⟩ ρ = (match ρ.get i with | some c => decide (c.k ≤ 1) && decide (c.d = .lst l) | none => false) := rfl
@[simp] theorem wipe_nil {ρ : Env} : wipeE ρ [] = ρ := rfl
@[simp] theorem wipe_cons {ρ : Env} {i : Nat} {r : List Nat} : wipeE ρ (i :: r) = (wipeE ρ r).set i none := rfl
@[simp] theorem rest_nil {ρ ρ0 : Env} : restore ρ ρ0 [] = ρ := rfl
@[simp] theorem rest_cons {ρ ρ0 : Env} {i : Nat} {r : List Nat} : restore ρ ρ0 (i :: r) = (restore ρ ρ0 r).set i (ρ0.get i) := rfl
@[simp] theorem own_nil {ρ : Env} : ownOk ρ [] = true := rfl
@[simp] theorem own_cons {ρ : Env} {i : Nat} {r : List Nat} : ownOk ρ (i :: r) = ((match ρ.get i with | some c => decide (c.k = 0) | none => true) && ownOk ρ r) := rfl
@[simp] theorem items_tup {l : List D} : itemsOf (.tup l) = some l := rfl
@[simp] theorem items_lst {l : List D} : itemsOf (.lst l) = some l := rfl
@[simp] theorem items_scr {l : List D} : itemsOf (.scr l) = some l := rfl

/-! ### one turn of a loop -/
def fin1 (it : ItD) (x : Fl × Env) : R (Fl × Env) := match x.1 with
  | .ret c => .ok (.ret c, x.2)
  | .brk => .ok (.brk, x.2)
  | _ => if chkOk it x.2 then .ok (.next, x.2) else .bad
@[simp] theorem fin1_ret {it : ItD} {c : Cell} {ρ : Env} : fin1 it (.ret c, ρ) = .ok (.ret c, ρ) := rfl
@[simp] theorem fin1_brk {it : ItD} {ρ : Env} : fin1 it (.brk, ρ) = .ok (.brk, ρ) := rfl
@[simp] theorem fin1_next {it : ItD} {ρ : Env} : fin1 it (.next, ρ) = if chkOk it ρ then .ok (.next, ρ) else .bad := rfl
@[simp] theorem fin1_cont {it : ItD} {ρ : Env} : fin1 it (.cont, ρ) = if chkOk it ρ then .ok (.next, ρ) else .bad := rfl
def step1 (it : ItD) (g : MG) (body : MS) (L : List Nat) (d : D) (ρ : Env) : R (Fl × Env) := do
  let ρ1 ← g d L ρ
  let x ← body L ρ1
  fin1 it x
section
variable {it : ItD} {g : MG} {body : MS} {L : List Nat} {d : D} {r : List D} {ρ ρ' : Env} {α σ : Type} {toD : α → D} {enc : σ → Env}
theorem loopF_cons : loopF it g body L (d :: r) ρ = (do
    let ρ1 ← g d L ρ
    let (fl, ρ2) ← body L ρ1
    match fl with
    | .ret c => R.ok (.ret c, ρ2)
    | .brk => R.ok (.next, ρ2)
    | _ => if chkOk it ρ2 then loopF it g body L r ρ2 else R.bad) := rfl
theorem loop_next (h : step1 it g body L d ρ = .ok (.next, ρ')) : loopF it g body L (d :: r) ρ = loopF it g body L r ρ' := by
  rw [loopF_cons]
  unfold step1 at h
  obtain ⟨ρ1, e1, h⟩ := R.of_bind h
  obtain ⟨⟨fl, ρ2⟩, e2, h⟩ := R.of_bind h
  rw [e1]
  simp only [R.ok_bind]
  rw [e2]
  simp only [R.ok_bind]
  cases fl with
  | ret c => simp at h
  | brk => simp at h
  | next =>
    dsimp only
    by_cases hc : chkOk it ρ2 = true
    · simp [hc] at h; subst h; rw [if_pos hc]
    · simp [hc] at h
  | cont =>
    dsimp only
    by_cases hc : chkOk it ρ2 = true
    · simp [hc] at h; subst h; rw [if_pos hc]
    · simp [hc] at h
theorem loop_ret {c : Cell} (h : step1 it g body L d ρ = .ok (.ret c, ρ')) : loopF it g body L (d :: r) ρ = .ok (.ret c, ρ') := by
  rw [loopF_cons]
  unfold step1 at h
  obtain ⟨ρ1, e1, h⟩ := R.of_bind h
  obtain ⟨⟨fl, ρ2⟩, e2, h⟩ := R.of_bind h
  rw [e1]
  simp only [R.ok_bind]
  rw [e2]
  simp only [R.ok_bind]
  cases fl with
  | ret c' => simp at h; obtain ⟨rfl, rfl⟩ := h; rfl
  | brk => simp at h
  | next => by_cases hc : chkOk it ρ2 = true <;> simp [hc] at h
  | cont => by_cases hc : chkOk it ρ2 = true <;> simp [hc] at h
theorem loop_brk (h : step1 it g body L d ρ = .ok (.brk, ρ')) : loopF it g body L (d :: r) ρ = .ok (.next, ρ') := by
  rw [loopF_cons]
  unfold step1 at h
  obtain ⟨ρ1, e1, h⟩ := R.of_bind h
  obtain ⟨⟨fl, ρ2⟩, e2, h⟩ := R.of_bind h
  rw [e1]
  simp only [R.ok_bind]
  rw [e2]
  simp only [R.ok_bind]
  cases fl with
  | ret c' => simp at h
  | brk => simp at h; subst h; rfl
  | next => by_cases hc : chkOk it ρ2 = true <;> simp [hc] at h
  | cont => by_cases hc : chkOk it ρ2 = true <;> simp [hc] at h
/-- the state that a loop leaves, by what each turn does -/
theorem for_fold (toD : α → D) (enc : σ → Env) (step : σ → α → σ) (I : List α → σ → Prop) {ds : List α} {s : σ} (hI : I ds s)
    (h : ∀ a rest s, I (a :: rest) s → step1 it g body L (toD a) (enc s) = .ok (.next, enc (step s a)) ∧ I rest (step s a)) :
    loopF it g body L (ds.map toD) (enc s) = .ok (.next, enc (ds.foldl step s)) ∧ I [] (ds.foldl step s) := by
  induction ds generalizing s with
  | nil => exact ⟨rfl, hI⟩
  | cons a r ih =>
    obtain ⟨e, h2⟩ := h a r s hI
    obtain ⟨e2, h3⟩ := ih h2
    rw [List.map_cons, loop_next e, e2, List.foldl_cons]
    exact ⟨rfl, h3⟩
/-- the same by a relation -/
theorem for_rel (toD : α → D) (enc : σ → Env) (I : List α → σ → Prop) {ds : List α} {s : σ} (hI : I ds s)
    (h : ∀ a rest s, I (a :: rest) s → ∃ s', step1 it g body L (toD a) (enc s) = .ok (.next, enc s') ∧ I rest s') :
    ∃ s', loopF it g body L (ds.map toD) (enc s) = .ok (.next, enc s') ∧ I [] s' := by
  induction ds generalizing s with
  | nil => exact ⟨s, rfl, hI⟩
  | cons a r ih =>
    obtain ⟨s2, e, h2⟩ := h a r s hI
    obtain ⟨s3, e2, h3⟩ := ih h2
    exact ⟨s3, by rw [List.map_cons, loop_next e, e2], h3⟩
/-- a loop that may leave by a return -/
theorem for_ret (toD : α → D) (enc : σ → Env) (I : List α → σ → Prop) (Q : Cell → Env → Prop) {ds : List α} {s : σ} (hI : I ds s)
    (h : ∀ a rest s, I (a :: rest) s → (∃ s', step1 it g body L (toD a) (enc s) = .ok (.next, enc s') ∧ I rest s') ∨ ∃ c ρ, step1 it g body L (toD a) (enc s) = .ok (.ret c, ρ) ∧ Q c ρ) :
    (∃ s', loopF it g body L (ds.map toD) (enc s) = .ok (.next, enc s') ∧ I [] s') ∨ ∃ c ρ, loopF it g body L (ds.map toD) (enc s) = .ok (.ret c, ρ) ∧ Q c ρ := by
  induction ds generalizing s with
  | nil => exact .inl ⟨s, rfl, hI⟩
  | cons a r ih =>
    rcases h a r s hI with ⟨s2, e, h2⟩ | ⟨c, ρ, e, h2⟩
    · rcases ih h2 with ⟨s3, e2, h3⟩ | ⟨c, ρ, e2, h3⟩
      · exact .inl ⟨s3, by rw [List.map_cons, loop_next e, e2], h3⟩
      · exact .inr ⟨c, ρ, by rw [List.map_cons, loop_next e, e2], h3⟩
    · exact .inr ⟨c, ρ, by rw [List.map_cons, loop_ret e], h2⟩
end

/-! ### one turn of a comprehension -/
def comp1 (it : ItD) (g : MG) (tt : MT) (me : AE) (vs : List Nat) (d : D) (ρ : Env) : R (Option D × Env) := do
  let ρa ← g d [] ρ
  let (b, ρb) ← tt ρa
  if b then do
    let (s, ρc) ← me ρb
    let (c, ρd) ← esc s ρc
    if chkOk it (wipeE ρd vs) then R.ok (some c.d, wipeE ρd vs) else R.bad
  else if chkOk it (wipeE ρb vs) then R.ok (none, wipeE ρb vs) else R.bad
section
variable {it : ItD} {g : MG} {tt : MT} {me : AE} {vs : List Nat} {d : D} {r : List D} {ρ ρ' : Env} {α σ : Type} {toD : α → D} {enc : σ → Env}
theorem loopC_cons : loopC it g tt me vs (d :: r) ρ = (do
    let ρa ← g d [] ρ
    let (b, ρb) ← tt ρa
    if b then do
      let (s, ρc) ← me ρb
      let (c, ρd) ← esc s ρc
      if chkOk it (wipeE ρd vs) then do
        let (acc, ρe) ← loopC it g tt me vs r (wipeE ρd vs)
        R.ok (c.d :: acc, ρe)
      else R.bad
    else if chkOk it (wipeE ρb vs) then loopC it g tt me vs r (wipeE ρb vs) else R.bad) := rfl
theorem comp_next {o : Option D} (h : comp1 it g tt me vs d ρ = .ok (o, ρ')) : loopC it g tt me vs (d :: r) ρ = (do let (acc, ρe) ← loopC it g tt me vs r ρ'; R.ok (o.toList ++ acc, ρe)) := by
  rw [loopC_cons]
  unfold comp1 at h
  obtain ⟨ρa, e1, h⟩ := R.of_bind h
  obtain ⟨⟨b, ρb⟩, e2, h⟩ := R.of_bind h
  rw [e1]
  simp only [R.ok_bind]
  rw [e2]
  simp only [R.ok_bind]
  cases b with
  | true =>
    simp only [if_true] at h ⊢
    obtain ⟨⟨s, ρc⟩, e3, h⟩ := R.of_bind h
    obtain ⟨⟨c, ρd⟩, e4, h⟩ := R.of_bind h
    rw [e3]
    simp only [R.ok_bind]
    rw [e4]
    simp only [R.ok_bind]
    by_cases hc : chkOk it (wipeE ρd vs) = true
    · simp only [hc, if_true] at h ⊢
      cases h
      rfl
    · simp [hc] at h
  | false =>
    simp only [Bool.false_eq_true, if_false] at h ⊢
    by_cases hc : chkOk it (wipeE ρb vs) = true
    · simp only [hc, if_true] at h ⊢
      cases h
      cases loopC it g tt me vs r (wipeE ρb vs) <;> rfl
    · simp [hc] at h
theorem comp_fm (toD : α → D) (f : α → Option D) {ds : List α} (h : ∀ a ∈ ds, comp1 it g tt me vs (toD a) ρ = .ok (f a, ρ)) : loopC it g tt me vs (ds.map toD) ρ = .ok (ds.filterMap f, ρ) := by
  induction ds with
  | nil => rfl
  | cons a r ih =>
    rw [List.map_cons, comp_next (h a (List.mem_cons_self ..)), ih fun x hx => h x (List.mem_cons_of_mem _ hx)]
    cases e : f a with
    | none => rw [List.filterMap_cons_none e]; rfl
    | some y => rw [List.filterMap_cons_some e]; rfl
theorem comp_m (toD : α → D) (f : α → D) {ds : List α} (h : ∀ a ∈ ds, comp1 it g tt me vs (toD a) ρ = .ok (some (f a), ρ)) : loopC it g tt me vs (ds.map toD) ρ = .ok (ds.map f, ρ) := by
  rw [comp_fm toD (fun a => some (f a)) h]
  congr 2
  clear h
  induction ds with
  | nil => rfl
  | cons a r ih => simp
theorem comp_f (toD : α → D) (p : α → Bool) (f : α → D) {ds : List α} (h : ∀ a ∈ ds, comp1 it g tt me vs (toD a) ρ = .ok (if p a then some (f a) else none, ρ)) : loopC it g tt me vs (ds.map toD) ρ = .ok ((ds.filter p).map f, ρ) := by
  rw [comp_fm toD _ h]
  congr 2
  clear h
  induction ds with
  | nil => rfl
  | cons a r ih =>
    cases e : p a with
    | true => rw [List.filterMap_cons_some (by rw [e]; rfl), List.filter_cons_of_pos e, List.map_cons, ih]
    | false => rw [List.filterMap_cons_none (by rw [e]; rfl), List.filter_cons_of_neg (by rw [e]; simp), ih]
/-- a comprehension that changes a state -/
theorem comp_rel (toD : α → D) (enc : σ → Env) (I : List α → σ → List D → Prop) {ds : List α} {s : σ} {acc : List D} (hI : I ds s acc)
    (h : ∀ a rest s acc, I (a :: rest) s acc → ∃ s' o, comp1 it g tt me vs (toD a) (enc s) = .ok (o, enc s') ∧ I rest s' (acc ++ o.toList)) :
    ∃ s' out, loopC it g tt me vs (ds.map toD) (enc s) = .ok (out, enc s') ∧ I [] s' (acc ++ out) := by
  induction ds generalizing s acc with
  | nil => exact ⟨s, [], rfl, by simpa using hI⟩
  | cons a r ih =>
    obtain ⟨s2, o, e, h2⟩ := h a r s acc hI
    obtain ⟨s3, out, e2, h3⟩ := ih h2
    refine ⟨s3, o.toList ++ out, by rw [List.map_cons, comp_next e, e2]; rfl, by rw [← List.append_assoc]; exact h3⟩
end

/-! ### draws as functions -/
def DSl (l : List D) : Prop := DSt ⟨.lst l, 1⟩
def dN (l : List D) (m : Int) : Nat := match c_draw [⟨.lst l, 1⟩, ⟨.int m, 0⟩] with
  | .ok (⟨.int n, _⟩, _) => n.toNat
  | _ => 0
def dL (l : List D) (m : Int) : List D := if 0 < m ∧ m < 1073741824 then match c_draw [⟨.lst l, 1⟩, ⟨.int m, 0⟩] with
  | .ok (_, ⟨.lst l', _⟩ :: _) => l'
  | _ => l
  else l
theorem draw_all {l : List D} {m : Int} (h : DSl l) (h0 : 0 < m) (h1 : m < 1073741824) : c_draw [⟨.lst l, 1⟩, ⟨.int m, 0⟩] = .ok (⟨.int (dN l m : Nat), 0⟩, [⟨.lst (dL l m), 1⟩, ⟨.int m, 0⟩]) ∧ DSl (dL l m) ∧ (dN l m : Int) < m := by
  obtain ⟨n, c', e, hc, hn0, hn1⟩ := draw_ok h h0 h1
  obtain ⟨l', rfl⟩ := hc.k
  have e1 : dN l m = n.toNat := by unfold dN; rw [e]
  have e2 : dL l m = l' := by unfold dL; rw [if_pos ⟨h0, h1⟩, e]
  rw [e1, e2, e]
  refine ⟨?_, hc, by omega⟩
  rw [Int.toNat_of_nonneg hn0]
theorem draw_s {l : List D} {m : Int} (h : DSl l) (h0 : 0 < m) (h1 : m < 1073741824) : c_draw [⟨.lst l, 1⟩, ⟨.int m, 0⟩] = .ok (⟨.int (dN l m : Nat), 0⟩, [⟨.lst (dL l m), 1⟩, ⟨.int m, 0⟩]) := (draw_all h h0 h1).1
theorem DSl.d {l : List D} {m : Int} (h : DSl l) : DSl (dL l m) := by
  by_cases h2 : 0 < m ∧ m < 1073741824
  · exact (draw_all h h2.1 h2.2).2.1
  · unfold dL; rw [if_neg h2]; exact h
theorem dN_lt {l : List D} {m : Int} (h : DSl l) (h0 : 0 < m) (h1 : m < 1073741824) : (dN l m : Int) < m := (draw_all h h0 h1).2.2
theorem dN_ltN {l : List D} {m : Nat} (h : DSl l) (h0 : 0 < m) (h1 : m < 1073741824) : dN l (m : Int) < m := Int.ofNat_lt.mp (dN_lt h (by omega) (by omega))
theorem pick_s {l : List D} {c : D} {row : List D} {k : Nat} (hc : (c = .lst row ∧ k ≤ 1) ∨ (c = .tup row ∧ k = 0)) (h : DSl l) (h0 : 0 < row.length) (h1 : row.length < 1073741824) : c_pick [⟨.lst l, 1⟩, ⟨c, k⟩] = .ok (⟨row.getD (dN l row.length) .non, 0⟩, [⟨.lst (dL l row.length), 1⟩, ⟨c, k⟩]) := by
  have hd := draw_s (m := (row.length : Int)) h (by omega) (by omega)
  have hl := dN_ltN (m := row.length) h h0 h1
  have hx := atI_nat hl
  have hg : row.getD (dN l row.length) .non = row[dN l row.length] := by simp [List.getElem?_eq_getElem hl]
  rw [hg]
  rcases hc with ⟨rfl, hk⟩ | ⟨rfl, rfl⟩
  · obtain rfl | rfl : k = 0 ∨ k = 1 := by omega
    all_goals simp -implicitDefEqProofs [c_pick, m_pick, hd, p_ixL, hx]
  · simp -implicitDefEqProofs [c_pick, m_pick, hd, p_ixT, hx]
theorem pickL_s {l : List D} {row : List D} {k : Nat} (hk : k ≤ 1) (h : DSl l) (h0 : 0 < row.length) (h1 : row.length < 1073741824) : c_pick [⟨.lst l, 1⟩, ⟨.lst row, k⟩] = .ok (⟨row.getD (dN l row.length) .non, 0⟩, [⟨.lst (dL l row.length), 1⟩, ⟨.lst row, k⟩]) := pick_s (.inl ⟨rfl, hk⟩) h h0 h1
theorem pickT_s {l : List D} {row : List D} (h : DSl l) (h0 : 0 < row.length) (h1 : row.length < 1073741824) : c_pick [⟨.lst l, 1⟩, ⟨.tup row, 0⟩] = .ok (⟨row.getD (dN l row.length) .non, 0⟩, [⟨.lst (dL l row.length), 1⟩, ⟨.tup row, 0⟩]) := pick_s (.inr ⟨rfl, rfl⟩) h h0 h1
theorem getD_mem {row : List D} {n : Nat} (h : n < row.length) : row.getD n .non ∈ row := by
  simp [List.getElem?_eq_getElem h]
theorem begin_s {ns : List Int} (hl : ns.length ≤ 63) : ∃ l, c_begin [⟨.scr (ns.map D.int), 0⟩] = .ok (⟨.lst l, 1⟩, [⟨.scr (ns.map D.int), 0⟩]) ∧ DSl l :=
  ⟨_, begin_ok hl, ns, 0, 0, 7, rfl, by decide, by decide, by decide⟩
theorem shuffled_s {l row : List D} {k : Nat} (h : DSl l) (hk : k ≤ 1) (h1 : row.length ≤ 16777216) : ∃ (row' l' : List D), c_shuffled [⟨.lst l, 1⟩, ⟨.lst row, k⟩] = .ok (⟨.lst row', 1⟩, [⟨.lst l', 1⟩, ⟨.lst row, k⟩]) ∧ DSl l' ∧ row'.Perm row := by
  obtain ⟨row', c', e, hc, hp⟩ := shuffled_ok h hk h1
  obtain ⟨l', rfl⟩ := hc.k
  exact ⟨row', l', e, hc, hp⟩

/-! ### small ones that each law wants -/
@[simp] theorem f_max2 {i j : Int} {k k' : Nat} : fMax [⟨.int i, k⟩, ⟨.int j, k'⟩] = .ok ⟨.int (if j > i then j else i), 0⟩ := rfl
@[simp] theorem f_min2 {i j : Int} {k k' : Nat} : fMin [⟨.int i, k⟩, ⟨.int j, k'⟩] = .ok ⟨.int (if j < i then j else i), 0⟩ := rfl
@[simp] theorem f_neI {i j : Int} {k k' : Nat} : fNe [⟨.int i, k⟩, ⟨.int j, k'⟩] = .ok ⟨.bl (!decide (i = j)), 0⟩ := by
  unfold fNe
  have e : D.eqv (.int i) (.int j) = decide (i = j) := by
    show (i == j) = _
    by_cases q : i = j <;> simp [q]
  simp only [D.okd, Bool.and_true, if_true, e]
  rfl
@[simp] theorem nL_len {ps : List Nat} : (nL ps).length = ps.length := by unfold nL; simp
@[simp] theorem iL_len {ps : List Int} : (iL ps).length = ps.length := by unfold iL; simp
@[simp] theorem len_nD {ps : List Nat} {k : Nat} : fLen [⟨nD ps, k⟩] = .ok ⟨.int ps.length, 0⟩ := by show R.ok (Cell.fz (.int (nL ps).length)) = _; rw [nL_len]; rfl
@[simp] theorem len_iD {ps : List Int} {k : Nat} : fLen [⟨iD ps, k⟩] = .ok ⟨.int ps.length, 0⟩ := by show R.ok (Cell.fz (.int (iL ps).length)) = _; rw [iL_len]; rfl
@[simp] theorem items_iD {l : List Int} : itemsOf (iD l) = some (iL l) := rfl
@[simp] theorem items_nD {l : List Nat} : itemsOf (nD l) = some (nL l) := rfl
theorem f_addT {l m : List D} {k k' : Nat} (h : l.length ≤ 10000) (h' : m.length ≤ 10000) : fAdd [⟨.tup l, k⟩, ⟨.tup m, k'⟩] = .ok ⟨.tup (l ++ m), 0⟩ := by
  unfold fAdd
  simp only
  rw [if_pos (by omega)]
  rfl
theorem cutD_to {l : List D} {k : Nat} (h : k ≤ l.length) : cutD l none (some (k : Int)) = l.take k := by
  unfold cutD
  rw [HT.sIx_none, HT.sIx_nat, Nat.min_eq_left h]
  simp
theorem cutD_from {l : List D} {k : Nat} (h : k ≤ l.length) : cutD l (some (k : Int)) none = l.drop k := by
  unfold cutD
  rw [HT.sIx_none, HT.sIx_nat, Nat.min_eq_left h, ← List.length_drop, List.take_length]
theorem cutD_both {l : List D} {i j : Nat} (hi : i ≤ l.length) (hj : j ≤ l.length) : cutD l (some (i : Int)) (some (j : Int)) = (l.drop i).take (j - i) := by
  unfold cutD
  rw [HT.sIx_nat, HT.sIx_nat, Nat.min_eq_left hi, Nat.min_eq_left hj]
theorem sl_T {l : List D} {k : Nat} {a b : Option Int} : fSl ⟨.tup l, k⟩ a b = .ok ⟨.tup (cutD l a b), 0⟩ := rfl
theorem rgD_nat' {n : Nat} : rgD 0 (n : Int) = (List.range n).map fun (i : Nat) => D.int (i : Int) := rgD_nat
theorem rg_from1 {n : Nat} : rgD 1 ((n : Int) + 1) = nL ((List.range n).map (· + 1)) := by
  unfold rgD nL
  rw [show ((n : Int) + 1 - 1).toNat = n by omega, List.map_map]
  apply List.map_congr_left
  intro i _
  show D.int _ = D.int _
  congr 1
  simp
  omega
theorem rgB_1 {n : Nat} (h : n ≤ 1000) : rgB 1 ((n : Int) + 1) = true := by
  unfold rgB
  rw [decide_eq_true_eq]
  omega
end Z

/-! Z: range with a step, calls without arguments, two clauses of a comprehension. -/
namespace Z
open PySem PySem.Spec PyProof.Rows L2
section
variable {X : Cx} {tg : Expr}
/-! ### range(a, b, c) -/
def rg3B (i j c : Int) : Bool := decide (c ≠ 0) && decide (c.natAbs < 1073741824) && Builtin.Range.small i j c && decide (0 ≤ Builtin.Range.rangeSize i j c)
def rg3D (i j c : Int) : List D := (List.range (Builtin.Range.rangeSize i j c).toNat).map fun (k : Nat) => D.int (i + (k : Nat) * c)
def mRange3 (ms : List AE) : MI := fun ρ => do
  let (ss, ρ1) ← evs ms ρ
  match cells ρ1 ss with
  | some [⟨.int i, _⟩, ⟨.int j, _⟩, ⟨.int c, _⟩] => if rg3B i j c then R.ok (⟨rg3D i j c, none⟩, ρ1) else R.bad
  | _ => R.bad
theorem it_range3 {K : PySem.W.Frag} {n m : Nat} {σ : L2.St} {H : Hp} {w : OM} (i c : Int) : ItOk K (Itc i c m) n ⟨(List.range m).map fun (k : Nat) => D.int (i + (k : Nat) * c), none⟩ σ H w := fun H2 w2 σ2 ρ2 j ok2 st2 _ _ => by
  refine ⟨fun d hd => ?_, fun hle => (by simpa using hle : m ≤ j)⟩
  simp only [List.getElem?_map, Option.map_eq_some_iff] at hd
  obtain ⟨k, hk, rfl⟩ := hd
  obtain ⟨hj, hk⟩ := List.getElem?_eq_some_iff.mp hk
  rw [List.getElem_range] at hk
  subst hk
  refine ⟨(by simpa using hj : j < m), fun x H3 y => ?_⟩
  obtain ⟨rfl, rfl⟩ := y
  exact ⟨w2, fun _ _ o => o, fun _ => Step.refl, .int _⟩
theorem OwA.ints3 {K : PySem.W.Frag} {H : Hp} {w : OM} {i j c : Int} {k1 k2 k3 : Nat} {vs : List V} (h : OwA K H w [⟨.int i, k1⟩, ⟨.int j, k2⟩, ⟨.int c, k3⟩] vs) : vs = [.int i, .int j, .int c] := by
  cases h with
  | cons _ h1 t =>
    cases t with
    | cons _ h2 t =>
      cases t with
      | cons _ h3 t =>
        cases t
        cases ow_int h1
        cases ow_int h2
        cases ow_int h3
        rfl
theorem si_range3 {a b c : Expr} {ms : List AE} {p pos : Pos} (hm : X.mg "range" = none) (ha : SAs X [a, b, c] ms) (hg : Gl X "range" := by rfl)
    (hs : starEach [a, b, c] X.env = (false, eval a X.env) :: starEach [b, c] X.env := by rfl) (hpl : (backTo pos (starEach [b, c] X.env)).any (·.1) = false := by rfl) :
    SI X tg (.Call (.Name "range" p) [a, b, c] [] pos) (mRange3 ms) := by
  obtain ⟨t, q, g⟩ := ha.ex
  refine ⟨_, pi_range3 hg hm q hs hpl, fun n σ H w ρ it ρ' Q ok hm k => ?_⟩
  obtain ⟨⟨ss, ρ1⟩, e1, hm⟩ := R.of_bind hm
  dsimp only at hm
  split at hm
  · rename_i i _ j _ c _ hc
    split at hm
    · rename_i hb
      cases hm
      refine g n σ H w ρ ss _ _ ok e1 fun vs H1 w1 ok1 st1 sa => ?_
      cases (sa.cells ok1 hc).ints3
      unfold rg3B at hb
      simp only [Bool.and_eq_true, decide_eq_true_eq] at hb
      exact ⟨i, j, c, (Builtin.Range.rangeSize i j c).toNat, rfl, ⟨hb.1.1.1, hb.1.1.2, hb.1.2, (Int.toNat_of_nonneg hb.2).symm⟩, k _ H1 w1 ok1 st1 rfl (it_range3 i c)⟩
    · cases hm
  · cases hm
/-! ### f() -/
theorem sa_call0 {x : Str} {p pos : Pos} {f : FD} {fa : Addr} {fd : FuncData} {ps : List Str} {k : Nat} (F : FnOkG X.prog X.w X.K X.mg X.base CX0 k fa fd ps (spD X.K 0 f)) (hr : RoomG k X.A) (hm : X.mg x = some (.ref fa)) (hk : PySem.W.keepIn X.K (.ref fa) = true) (hb : Binds X.K fd ps [])
    (hg : Gl X x := by rfl) (hdb : (x == ("__debug__" : Str)) = false := by decide) :
    SA X (.Call (.Name x p) [] [] pos) (mCall f []) := by
  refine ⟨_, pe_callG0 F hr hg hm hk hb pass0 hdb, fun n σ H w ρ s ρ' Q ok hm k => ?_⟩
  obtain ⟨ss, ρ1, cs, r, fs, e1, e2, e3, e4, rfl, rfl⟩ := mCall_ok hm
  cases e1
  exact call_sem (n := n) (ss := []) ok trivial e2 e3 e4 rfl fun v H' w' ok' st' ow => k v H' w' ok' st' ow
/-! ### [e for a in A if s for b in B if t] -/
def loopC2 (it : ItD) (g : MG) (tt : MT) (mi1 : MI) (g1 : MG) (tt1 : MT) (me : AE) (vs vs1 : List Nat) : List D → Env → R (List D × Env)
  | [], ρ => .ok ([], ρ)
  | d :: r, ρ => do
    let ρa ← g d [] ρ
    let (b, ρb) ← tt ρa
    if b then do
      let (it1, ρc) ← mi1 ρb
      if chkOk it1 (wipeE ρc vs1) then do
        let (acc1, ρd) ← loopC it1 g1 tt1 me vs1 it1.items (wipeE ρc vs1)
        if chkOk it (wipeE ρd vs) then do
          let (acc, ρe) ← loopC2 it g tt mi1 g1 tt1 me vs vs1 r (wipeE ρd vs)
          R.ok (acc1 ++ acc, ρe)
        else R.bad
      else R.bad
    else if chkOk it (wipeE ρb vs) then loopC2 it g tt mi1 g1 tt1 me vs vs1 r (wipeE ρb vs) else R.bad
def mComp2 (mi : MI) (g : MG) (tt : MT) (mi1 : MI) (g1 : MG) (tt1 : MT) (me : AE) (vs vs1 : List Nat) : AE := fun ρ => do
  let (it, ρ1) ← mi ρ
  if ownOk ρ1 vs && chkOk it (wipeE ρ1 vs) then do
    let (acc, ρ2) ← loopC2 it g tt mi1 g1 tt1 me vs vs1 it.items (wipeE ρ1 vs)
    if acc.length ≤ 16777216 then R.ok (.v ⟨.lst acc, 1⟩, restore ρ2 ρ1 vs) else R.bad
  else R.bad
def rdI (K : PySem.W.Frag) (m : MI) : TI := fun σ H R => ∃ (n : Nat) (w : OM) (ρ : Env) (it : ItD) (ρ' : Env), Ok K H w σ ρ ∧ m ρ = .ok (it, ρ') ∧ ∀ J H' w', Ok K H' w' σ ρ' → Step n H w H' w' → chkOk it ρ' = true → ItOk K J 0 it σ H' w' → R J H'
theorem SI.rd {iter : Expr} {m : MI} (h : SI X tg iter m) : PI X tg iter (rdI X.K m) := by
  obtain ⟨t, p, g⟩ := h.ex
  exact ⟨fun pins s σ H Q I ⟨n, w, ρ, it, ρ', ok, hm, k⟩ => p.run pins s σ H Q I (g n σ H w ρ it ρ' Q ok hm k)⟩
theorem loopC_length {it : ItD} {g : MG} {tt : MT} {me : AE} {vs : List Nat} : ∀ {ds : List D} {ρ ρ' : Env} {out : List D}, loopC it g tt me vs ds ρ = .ok (out, ρ') → out.length ≤ ds.length
  | [], _, _, _, h => by cases h; simp
  | d :: r, ρ, ρ', out, h => by
    rw [loopC_cons] at h
    obtain ⟨ρa, e1, h⟩ := R.of_bind h
    obtain ⟨⟨b, ρb⟩, e2, h⟩ := R.of_bind h
    cases b with
    | true =>
      simp only [if_true] at h
      obtain ⟨⟨s, ρc⟩, e3, h⟩ := R.of_bind h
      obtain ⟨⟨c, ρd⟩, e4, h⟩ := R.of_bind h
      dsimp only at h
      split at h
      · obtain ⟨⟨acc, ρe⟩, e5, h⟩ := R.of_bind h
        cases h
        have := loopC_length e5
        simp only [List.length_cons]
        omega
      · cases h
    | false =>
      simp only [Bool.false_eq_true, if_false] at h
      split at h
      · have := loopC_length h
        simp only [List.length_cons]
        omega
      · cases h
theorem lc2_sem {wi : TI} {mi mi1 : MI} {g g1 : MG} {tt tt1 : MT} {me : AE} {sl sl1 vs vs1 : List Nat} (hsl : ∀ i ∈ sl, i ∈ vs) (hsl1 : ∀ i ∈ sl1, i ∈ vs1) (hv1 : ∀ i ∈ vs1, i ∈ vs)
    (f : ∀ (n : Nat) (σ : L2.St) (H : Hp) (w : OM) (ρ : Env) (it : ItD) (ρ' : Env) (Q : It → Hp → Prop), Ok X.K H w σ ρ → mi ρ = .ok (it, ρ') →
      (∀ J H' w', Ok X.K H' w' σ ρ' → Step n H w H' w' → chkOk it ρ' = true → ItOk X.K J 0 it σ H' w' → Q J H') → wi σ H Q) :
    ∀ (n : Nat) (σ : L2.St) (H : Hp) (w : OM) (ρ : Env) (s : Src) (ρ' : Env) (Q : VK), Ok X.K H w σ ρ → mComp2 mi g tt mi1 g1 tt1 me vs vs1 ρ = .ok (s, ρ') →
    (∀ v H' w', Ok X.K H' w' σ ρ' → Step n H w H' w' → SrcAt X.K H' w' σ n s v → Q v H') → tLc2 wi (rdG X.K sl g) (rdT X.K tt) (rdI X.K mi1) (rdG X.K sl1 g1) (rdT X.K tt1) (rdE X.K me) vs vs1 σ H Q := by
  intro n σ H w ρ s ρ' Q ok hm k
  obtain ⟨⟨it, ρ1⟩, e1, hm⟩ := R.of_bind hm
  dsimp only at hm
  split at hm
  case isFalse => cases hm
  rename_i hc
  obtain ⟨⟨total, ρ2⟩, e2, hm⟩ := R.of_bind hm
  dsimp only at hm
  split at hm
  case isFalse => cases hm
  rename_i hlen
  cases hm
  simp only [Bool.and_eq_true] at hc
  obtain ⟨hown, hck⟩ := hc
  refine f n σ H w ρ it ρ1 _ ok e1 fun J H1 w1 ok1 st1 c1 io => ?_
  intro D hD
  have ok2 : Ok X.K (upd H1 D (.lst [])) (w1.put D (.tm n)) σ ρ1 := ok1.new hD _
  have st2 : Step n H1 w1 (upd H1 D (.lst [])) (w1.put D (.tm n)) := Step.new hD
  refine ⟨fun i m H2 => m = it.items.length - i ∧ i ≤ it.items.length ∧ ∃ w2 ρ3 acc accV rest, Ok X.K H2 w2 (L2.wipe σ vs) ρ3 ∧ Step n H1 w1 H2 w2 ∧ chkOk it ρ3 = true ∧ loopC2 it g tt mi1 g1 tt1 me vs vs1 (it.items.drop i) ρ3 = .ok (rest, ρ2) ∧
      acc ++ rest = total ∧ H2 D = some (.lst accV) ∧ w2 D = .tm n ∧ FzL X.K H2 w2 acc accV,
    ⟨_, rfl, Nat.zero_le _, _, _, [], [], total, ok2.wipe vs, st2, hck, e2, rfl, upd_same, OM.put_same, .nil⟩, ?_⟩
  rintro i m H2 ⟨rfl, hle, w2, ρ3, acc, accV, rest, ok3, st3, ck3, e3, et, hDa, hwD, fa⟩
  obtain ⟨go, stop⟩ := io H2 w2 (L2.wipe σ vs) ρ3 i ok3 (st3.mono (Nat.zero_le n)) (fun j hj => by
    unfold chkOk at ck3
    rw [hj] at ck3
    dsimp only at ck3
    split at ck3
    · rename_i c hc
      obtain ⟨v, ev, _⟩ := ok3.slot j c hc
      rw [ev]
      exact (wipe_some ev).1.symm
    · cases ck3) ck3
  by_cases hlt : i < it.items.length
  case neg =>
    have e : i = it.items.length := by omega
    subst e
    rw [List.drop_length] at e3
    cases e3
    rw [List.append_nil] at et
    subst et
    refine .inl ⟨stop (Nat.le_refl _), k (.ref D) H2 w2 ?_ (st1.trans st3) (.lst hDa hwD fa)⟩
    refine ⟨by rw [restore_length, ← ok3.len, wipe_length], fun i c h => ?_, ok3.live⟩
    rcases restore_get h with ⟨h1, h2⟩ | ⟨h1, h2⟩
    · obtain ⟨v, ev, q⟩ := ok3.slot i c h2
      exact ⟨v, (wipe_some ev).1, q⟩
    · obtain ⟨v, ev, q⟩ := ok1.slot i c h2
      have hk : c.k = 0 := by
        have := List.all_eq_true.mp hown i h1
        rw [h2] at this
        exact of_decide_eq_true this
      rw [hk] at q ⊢
      refine ⟨v, ev, ?_⟩
      cases q with
      | fz q => exact .fz (st3.fz q)
  obtain ⟨hgo, hy⟩ := go _ (List.getElem?_eq_getElem hlt)
  rw [List.drop_eq_getElem_cons hlt] at e3
  obtain ⟨ρa, ea, e3⟩ := R.of_bind e3
  obtain ⟨⟨b, ρb⟩, eb, e3⟩ := R.of_bind e3
  refine .inr ⟨hgo, fun H4 => ∃ w4 ρ4 acc accV rest, Ok X.K H4 w4 (L2.wipe σ vs) ρ4 ∧ Step n H1 w1 H4 w4 ∧ chkOk it ρ4 = true ∧ loopC2 it g tt mi1 g1 tt1 me vs vs1 (it.items.drop (i + 1)) ρ4 = .ok (rest, ρ2) ∧
    acc ++ rest = total ∧ H4 D = some (.lst accV) ∧ w4 D = .tm n ∧ FzL X.K H4 w4 acc accV, ?_, ?_⟩
  · rintro H4 h4
    exact ⟨it.items.length - (i + 1), by omega, rfl, hlt, h4⟩
  intro x H3 y
  obtain ⟨w3, ok3f, st3f, fz⟩ := hy x H3 y
  have ok4 := ok3f _ _ ok3
  refine ⟨w3, ρ3, [], _, ρa, ok4, fz, ea, fun σ2 ok5 n5 a5 _ => ?_⟩
  have hwp : L2.wipe σ2 vs = L2.wipe σ vs := wipe_eq (by rw [n5, wipe_length]) fun j hj => a5 j fun z => hj (hsl j z)
  refine ⟨hwp, n + 1, w3, ρa, b, ρb, ok5, eb, fun H5 w5 ok6 st6 => ?_⟩
  have D3 := st3f (n + 1) D _ hDa (by rw [hwD]; exact .inr (.inr ⟨n, Nat.lt_succ_self n, rfl⟩))
  have hw3 : w3 D = .tm n := D3.2.trans hwD
  have D5 := st6 D _ D3.1 (by rw [hw3]; exact .inr (.inr ⟨n, Nat.lt_succ_self n, rfl⟩))
  have hw5 : w5 D = .tm n := D5.2.trans hw3
  have fa3 := (st3f 0).kp (o := .no) (.inl rfl)
  have fa5 : FzL X.K H5 w5 acc accV := (fa.step fa3).step (st6.kp (o := .no) (.inl rfl))
  have st5 : Step n H1 w1 H5 w5 := (st3.trans (st3f n)).trans (st6.mono (Nat.le_succ n))
  cases b with
  | false =>
    have e3 : (if chkOk it (wipeE ρb vs) = true then loopC2 it g tt mi1 g1 tt1 me vs vs1 (it.items.drop (i + 1)) (wipeE ρb vs) else R.bad) = .ok (rest, ρ2) := e3
    split at e3
    · exact iteF ⟨w5, wipeE ρb vs, acc, accV, rest, ok6.wipe2 hwp, st5, by assumption, e3, et, D5.1, hw5, fa5⟩
    · cases e3
  | true =>
    obtain ⟨⟨it1, ρc⟩, ec, e3⟩ := R.of_bind (show (mi1 ρb >>= _) = _ from e3)
    dsimp only at e3
    split at e3
    case isFalse => cases e3
    rename_i hck1
    obtain ⟨⟨total1, ρd⟩, ed, e3⟩ := R.of_bind e3
    dsimp only at e3
    split at e3
    case isFalse => cases e3
    rename_i hck2
    obtain ⟨⟨rest2, ρe⟩, er, e3⟩ := R.of_bind e3
    cases e3
    refine iteT ⟨n + 1, w5, ρb, it1, ρc, ok6, ec, fun J1 H6 w6 ok7 st7 ck7 io1 => ?_⟩
    have D6 := st7 D _ D5.1 (by rw [hw5]; exact .inr (.inr ⟨n, Nat.lt_succ_self n, rfl⟩))
    have hw6 : w6 D = .tm n := D6.2.trans hw5
    have fa6 : FzL X.K H6 w6 acc accV := fa5.step (st7.kp (o := .no) (.inl rfl))
    have st6' : Step n H1 w1 H6 w6 := st5.trans (st7.mono (Nat.le_succ n))
    refine ⟨fun j m H2 => m = it1.items.length - j ∧ j ≤ it1.items.length ∧ ∃ w2 ρ3 acc1 accV rest1, Ok X.K H2 w2 (L2.wipe σ2 vs1) ρ3 ∧ Step n H1 w1 H2 w2 ∧ Step n H6 w6 H2 w2 ∧ chkOk it1 ρ3 = true ∧ loopC it1 g1 tt1 me vs1 (it1.items.drop j) ρ3 = .ok (rest1, ρd) ∧
        acc1 ++ rest1 = acc ++ total1 ∧ H2 D = some (.lst accV) ∧ w2 D = .tm n ∧ FzL X.K H2 w2 acc1 accV,
      ⟨_, rfl, Nat.zero_le _, w6, wipeE ρc vs1, acc, accV, total1, ok7.wipe vs1, st6', Step.refl, hck1, ed, rfl, D6.1, hw6, fa6⟩, ?_⟩
    rintro j m1 H7 ⟨rfl, hle1, w7, ρ7, acc1, accV1, rest1, ok8, st8, st86, ck8, e8, et1, hDa1, hwD1, fa8⟩
    obtain ⟨go1, stop1⟩ := io1 H7 w7 (L2.wipe σ2 vs1) ρ7 j ok8 (st86.mono (Nat.zero_le n)) (fun j hj => by
      unfold chkOk at ck8
      rw [hj] at ck8
      dsimp only at ck8
      split at ck8
      · rename_i c hc
        obtain ⟨v, ev, _⟩ := ok8.slot j c hc
        rw [ev]
        exact (wipe_some ev).1.symm
      · cases ck8) ck8
    by_cases hlt1 : j < it1.items.length
    case neg =>
      have e : j = it1.items.length := by omega
      subst e
      rw [List.drop_length] at e8
      cases e8
      rw [List.append_nil] at et1
      have hww : L2.wipe (L2.wipe σ2 vs1) vs = L2.wipe σ vs := by
        rw [← hwp]
        refine wipe_eq (by rw [wipe_length]) fun i hi => ?_
        rw [wipe_get, wipe_get, if_neg hi, if_neg fun z => hi (hv1 i z)]
      refine .inl ⟨stop1 (Nat.le_refl _), w7, wipeE ρd vs, acc1, accV1, rest2, ok8.wipe2 hww, st8, hck2, er, ?_, hDa1, hwD1, fa8⟩
      rw [et1, List.append_assoc]
      exact et
    obtain ⟨hgo1, hy1⟩ := go1 _ (List.getElem?_eq_getElem hlt1)
    rw [List.drop_eq_getElem_cons hlt1, loopC_cons] at e8
    obtain ⟨ρf, ef, e8⟩ := R.of_bind e8
    obtain ⟨⟨b1, ρg⟩, eg, e8⟩ := R.of_bind e8
    refine .inr ⟨hgo1, fun H4 => ∃ w4 ρ4 acc1 accV rest1, Ok X.K H4 w4 (L2.wipe σ2 vs1) ρ4 ∧ Step n H1 w1 H4 w4 ∧ Step n H6 w6 H4 w4 ∧ chkOk it1 ρ4 = true ∧ loopC it1 g1 tt1 me vs1 (it1.items.drop (j + 1)) ρ4 = .ok (rest1, ρd) ∧
      acc1 ++ rest1 = acc ++ total1 ∧ H4 D = some (.lst accV) ∧ w4 D = .tm n ∧ FzL X.K H4 w4 acc1 accV, ?_, ?_⟩
    · rintro H4 h4
      exact ⟨it1.items.length - (j + 1), by omega, rfl, hlt1, h4⟩
    intro x1 H8 y1
    obtain ⟨w8, ok9f, st9f, fz1⟩ := hy1 x1 H8 y1
    have ok9 := ok9f _ _ ok8
    refine ⟨w8, ρ7, [], _, ρf, ok9, fz1, ef, fun σ3 ok10 n10 a10 _ => ?_⟩
    have hwp1 : L2.wipe σ3 vs1 = L2.wipe σ2 vs1 := wipe_eq (by rw [n10, wipe_length]) fun j hj => a10 j fun z => hj (hsl1 j z)
    refine ⟨hwp1, n + 1, w8, ρf, b1, ρg, ok10, eg, fun H9 w9 ok11 st11 => ?_⟩
    have D8 := st9f (n + 1) D _ hDa1 (by rw [hwD1]; exact .inr (.inr ⟨n, Nat.lt_succ_self n, rfl⟩))
    have hw8 : w8 D = .tm n := D8.2.trans hwD1
    have D9 := st11 D _ D8.1 (by rw [hw8]; exact .inr (.inr ⟨n, Nat.lt_succ_self n, rfl⟩))
    have hw9 : w9 D = .tm n := D9.2.trans hw8
    have fa9 : FzL X.K H9 w9 acc1 accV1 := (fa8.step ((st9f 0).kp (o := .no) (.inl rfl))).step (st11.kp (o := .no) (.inl rfl))
    have st19 : Step n H7 w7 H9 w9 := (st9f n).trans (st11.mono (Nat.le_succ n))
    cases b1 with
    | false =>
      have e8 : (if chkOk it1 (wipeE ρg vs1) = true then loopC it1 g1 tt1 me vs1 (it1.items.drop (j + 1)) (wipeE ρg vs1) else R.bad) = .ok (rest1, ρd) := e8
      split at e8
      · exact iteF ⟨w9, wipeE ρg vs1, acc1, accV1, rest1, ok11.wipe2 hwp1, st8.trans st19, st86.trans st19, by assumption, e8, et1, D9.1, hw9, fa9⟩
      · cases e8
    | true =>
      obtain ⟨⟨s1, ρh⟩, eh, e8⟩ := R.of_bind (show (me ρg >>= _) = _ from e8)
      obtain ⟨⟨c, ρi⟩, ei, e8⟩ := R.of_bind e8
      dsimp only at e8
      split at e8
      case isFalse => cases e8
      rename_i hck3
      obtain ⟨⟨rest3, ρj⟩, ej, e8⟩ := R.of_bind e8
      cases e8
      refine iteT ⟨n + 1, w9, ρg, s1, ρh, ok11, eh, fun v H10 w10 ok12 st12 sa => ?_⟩
      obtain ⟨w11, ok13, st13, ow, kp13⟩ := esc_ok ok12 sa ei
      have D10 := st12 D _ D9.1 (by rw [hw9]; exact .inr (.inr ⟨n, Nat.lt_succ_self n, rfl⟩))
      have hw10 : w10 D = .tm n := D10.2.trans hw9
      have D11 := st13 (n + 1) D _ D10.1 (by rw [hw10]; exact .inr (.inr ⟨n, Nat.lt_succ_self n, rfl⟩))
      have hw11 : w11 D = .tm n := D11.2.trans hw10
      have hw12 : (w11.re (.tm (n + 1)) .no) D = .tm n := by rw [OM.re_ne (by rw [hw11]; intro z; cases z)]; exact hw11
      have ok14 : Ok X.K H10 (w11.re (.tm (n + 1)) .no) σ3 ρi := ok13.re (by intro z; cases z) (by intro i z; cases z)
      have fz14 : Fz X.K H10 (w11.re (.tm (n + 1)) .no) c.d v := ow.freeze (by intro z; cases z)
      have st14 : Step (n + 1) H9 w9 H10 (w11.re (.tm (n + 1)) .no) := (st12.trans (st13 _)).trans (Step.re not_fixed_tm)
      have fa14 : FzL X.K H10 (w11.re (.tm (n + 1)) .no) acc1 accV1 := fa9.step (st14.kp (o := .no) (.inl rfl))
      have hla : accV1.length = acc1.length := fa14.length.symm
      have hl1 : acc1.length < 16777216 := by
        have h1 := congrArg List.length et1
        have h2 := congrArg List.length et
        simp only [List.length_append, List.length_cons] at h1 h2
        omega
      have kpw : Kp .no H10 (w11.re (.tm (n + 1)) .no) (upd H10 D (.lst (accV1 ++ [v]))) (w11.re (.tm (n + 1)) .no) := Kp.write (by rw [hw12]; intro z; cases z) (by rw [hw12]; intro z; cases z)
      have st15 : Step n H9 w9 (upd H10 D (.lst (accV1 ++ [v]))) (w11.re (.tm (n + 1)) .no) := (st14.mono (Nat.le_succ n)).trans (Step.write (by rw [hw12]; exact not_fixed_tm))
      refine ⟨accV1, D10.1, by rw [sizeLine_eq, hla]; omega, w11.re (.tm (n + 1)) .no, wipeE ρi vs1, acc1 ++ [c.d], accV1 ++ [v], rest3, ?_, ?_, ?_, hck3, ej, ?_, upd_same, hw12, ?_⟩
      · exact (ok14.write hw12).wipe2 hwp1
      · exact (st8.trans st19).trans st15
      · exact (st86.trans st19).trans st15
      · rw [List.append_assoc]; exact et1
      · exact (fa14.append (.cons fz14 .nil)).step kpw
theorem sa_lc2 {elt tg iter tg1 iter1 : Expr} {ifs ifs1 : List Expr} {scope : Scope} {own : List (Str × Nat)} {pos : Pos} {mi mi1 : MI} {g g1 : MG} {tt tt1 : MT} {me : AE} {sl sl1 vs vs1 : List Nat} (hc : X.calm = true) (hN : X.N.Nodup) (hi : SI X tg iter mi) (ok : BlkOk X.N X.env.scope scope own) (hv : own.map (·.2) = vs)
    (hg : ∀ (s : Shared) (H : Hp) (C : Addr) (cl : List (Str × Addr)) (fp : List Addr), SG (X.blk s H scope (compEnvC scope cl C X.env) fp) tg sl g) (ht : ∀ (s : Shared) (H : Hp) (C : Addr) (cl : List (Str × Addr)) (fp : List Addr), STs (X.blk s H scope (compEnvC scope cl C X.env) fp) ifs tt)
    (hi1 : ∀ (s : Shared) (H : Hp) (C : Addr) (cl : List (Str × Addr)) (fp : List Addr), SI (X.blk s H scope (compEnvC scope cl C X.env) fp) tg1 iter1 mi1)
    (hg1 : ∀ (s : Shared) (H : Hp) (C : Addr) (cl : List (Str × Addr)) (fp : List Addr), SG (X.blk s H scope (compEnvC scope cl C X.env) fp) tg1 sl1 g1) (ht1 : ∀ (s : Shared) (H : Hp) (C : Addr) (cl : List (Str × Addr)) (fp : List Addr), STs (X.blk s H scope (compEnvC scope cl C X.env) fp) ifs1 tt1)
    (he : ∀ (s : Shared) (H : Hp) (C : Addr) (cl : List (Str × Addr)) (fp : List Addr), SA (X.blk s H scope (compEnvC scope cl C X.env) fp) elt me) (hsl : ∀ i ∈ sl, i ∈ vs := by decide) (hsl1 : ∀ i ∈ sl1, i ∈ vs1 := by decide) (hv1 : ∀ i ∈ vs1, i ∈ vs := by decide) (hs : ∀ x, foldedSetIterable iter X.env x = pure x := by intro _; rfl) (hs1 : ∀ env x, foldedSetIterable iter1 env x = pure x := by intro _ _; rfl) :
    SA X (.ListComp elt [⟨tg, iter, ifs, 0⟩, ⟨tg1, iter1, ifs1, 0⟩] scope pos) (mComp2 mi g tt mi1 g1 tt1 me vs vs1) := by
  subst hv
  obtain ⟨wi, p, f⟩ := hi.ex
  exact ⟨_, pe_lc2 hc hN p ok hv1 (fun s H C cl fp => (hg s H C cl fp).rd) (fun s H C cl fp => (ht s H C cl fp).rd) (fun s H C cl fp => (hi1 s H C cl fp).rd) (fun s H C cl fp => (hg1 s H C cl fp).rd) (fun s H C cl fp => (ht1 s H C cl fp).rd) (fun s H C cl fp => (he s H C cl fp).rd) hs hs1, lc2_sem (X := X) hsl hsl1 hv1 f⟩
theorem ss_setLc2 {i : Nat} {y : Str} {py : Pos} {elt tg iter tg1 iter1 : Expr} {ifs ifs1 : List Expr} {scope : Scope} {own : List (Str × Nat)} {pos spos : Pos} {mi mi1 : MI} {g g1 : MG} {tt tt1 : MT} {me : AE} {sl sl1 vs vs1 : List Nat} (hc : X.calm = true) (hN : X.N.Nodup) (hi : SI X tg iter mi) (ok : BlkOk X.N X.env.scope scope own) (hv : own.map (·.2) = vs)
    (hg : ∀ (s : Shared) (H : Hp) (C : Addr) (cl : List (Str × Addr)) (fp : List Addr), SG (X.blk s H scope (compEnvC scope cl C X.env) fp) tg sl g) (ht : ∀ (s : Shared) (H : Hp) (C : Addr) (cl : List (Str × Addr)) (fp : List Addr), STs (X.blk s H scope (compEnvC scope cl C X.env) fp) ifs tt)
    (hi1 : ∀ (s : Shared) (H : Hp) (C : Addr) (cl : List (Str × Addr)) (fp : List Addr), SI (X.blk s H scope (compEnvC scope cl C X.env) fp) tg1 iter1 mi1)
    (hg1 : ∀ (s : Shared) (H : Hp) (C : Addr) (cl : List (Str × Addr)) (fp : List Addr), SG (X.blk s H scope (compEnvC scope cl C X.env) fp) tg1 sl1 g1) (ht1 : ∀ (s : Shared) (H : Hp) (C : Addr) (cl : List (Str × Addr)) (fp : List Addr), STs (X.blk s H scope (compEnvC scope cl C X.env) fp) ifs1 tt1)
    (he : ∀ (s : Shared) (H : Hp) (C : Addr) (cl : List (Str × Addr)) (fp : List Addr), SA (X.blk s H scope (compEnvC scope cl C X.env) fp) elt me) (hsl : ∀ i ∈ sl, i ∈ vs := by decide) (hsl1 : ∀ i ∈ sl1, i ∈ vs1 := by decide) (hv1 : ∀ i ∈ vs1, i ∈ vs := by decide)
    (hy : X.N[i]? = some y := by rfl) (hyl : X.env.scope.names.lookup y = some .local := by rfl) (hsw : swapsWith (.ListComp elt [⟨tg, iter, ifs, 0⟩, ⟨tg1, iter1, ifs1, 0⟩] scope pos) (some (.Name y py)) spos.line X.env = pure true := by exact sw_true rfl rfl rfl (by decide +kernel)) (hs : ∀ x, foldedSetIterable iter X.env x = pure x := by intro _; rfl) (hs1 : ∀ env x, foldedSetIterable iter1 env x = pure x := by intro _ _; rfl) :
    SS X (.Assign [.Name y py] (.ListComp elt [⟨tg, iter, ifs, 0⟩, ⟨tg1, iter1, ifs1, 0⟩] scope pos) spos) (mSet i (mComp2 mi g tt mi1 g1 tt1 me vs vs1)) := by
  subst hv
  obtain ⟨wi, p, f⟩ := hi.ex
  exact ⟨_, ps_setLc2 hc hN hy hyl hsw p ok hv1 (fun s H C cl fp => (hg s H C cl fp).rd) (fun s H C cl fp => (ht s H C cl fp).rd) (fun s H C cl fp => (hi1 s H C cl fp).rd) (fun s H C cl fp => (hg1 s H C cl fp).rd) (fun s H C cl fp => (ht1 s H C cl fp).rd) (fun s H C cl fp => (he s H C cl fp).rd) hs hs1, mSet_core (lc2_sem (X := X) hsl hsl1 hv1 f)⟩
end
end Z

/-! Z: repr. -/
namespace Z
open PySem PySem.Spec PyProof.Rows L2
section
variable {X : Cx}
def rReprD (K : PySem.W.Frag) : List V → Hp → VK → Prop := fun xs H Q => ∃ v d, xs = [v] ∧ Dp K H v d ∧ SeqAt.shaped d = true ∧ d.showable = true ∧ d.shown.length ≤ sizeLine ∧ Q (.str d.shown) H
theorem call_reprD (hg : X.A.guards = some []) (hu : X.A.units + 70 < cLine) : CallR X (.builtin "repr") (rReprD X.K) := by
  intro pins s σ H xs us Q I r h
  obtain ⟨v, d, rfl, hd, sh, sw, sz, q⟩ := h
  obtain ⟨u, rfl, r1⟩ := vals1 r
  have fin : ∀ t s', (∀ b o, s.heap.get? b = some o → s'.heap.get? b = some o) → (∃ h' tk, s' = { s with heap := h', toks := tk }) → EP X pins σ Q (.str d.shown t) s' := fun t s' k ⟨h', tk, e⟩ => by
    subst e
    exact ⟨.str _, H, I.kept k, ⟨_, rfl⟩, q⟩
  have hcl : d.canLay0 = true ∧ d.depth ≤ 64 := by
    unfold SeqAt.shaped at sh
    rw [Bool.and_eq_true, decide_eq_true_eq] at sh
    exact sh
  cases hd with
  | non => cases r1; exact PySem.P.repr_of_none (fin _ _ (fun _ _ e => e) ⟨_, _, rfl⟩)
  | bl b =>
    cases r1
    exact PySem.P.repr_of_bool (fin _ _ (fun _ _ e => e) ⟨_, _, rfl⟩)
  | int i =>
    obtain ⟨t, rfl⟩ := r1
    exact PySem.P.repr_of_int (of_decide_eq_true sw) (fin _ _ (fun _ _ e => e) ⟨_, _, rfl⟩)
  | str x =>
    obtain ⟨t, rfl⟩ := r1
    exact PySem.P.repr_of_str (fin _ _ (fun _ _ e => e) ⟨_, _, rfl⟩) sz
  | lst hs ha =>
    cases r1
    obtain ⟨as, rd⟩ := Dp.reads I _ _ _ (.lst hs ha) rfl
    exact repr_of_reads' rd sw (PyData.noDict_hsm (PyData.hasDict_of_canLay _ hcl.1)) hg (by omega) (fun _ _ e => e) (fun h' u tk k => fin u _ k ⟨_, _, rfl⟩) sz
  | tup hs ha =>
    cases r1
    obtain ⟨as, rd⟩ := Dp.reads I _ _ _ (.tup hs ha) rfl
    exact repr_of_reads' rd sw (PyData.noDict_hsm (PyData.hasDict_of_canLay _ hcl.1)) hg (by omega) (fun _ _ e => e) (fun h' u tk k => fin u _ k ⟨_, _, rfl⟩) sz
def fRepr : List Cell → R Cell
  | [c] => if c.d.okd 60 && c.d.py.showable && decide (c.d.py.shown.length ≤ 16777216) then .ok (Cell.fz (.str c.d.py.shown)) else .bad
  | _ => .bad
theorem s_repr : CallS X (rReprD X.K) fRepr := s_scalar fun K H w cs vs c Q hK ow e => by
  subst hK
  unfold fRepr at e
  split at e
  · split at e
    · rename_i c1 hc
      cases e
      simp only [Bool.and_eq_true, decide_eq_true_eq] at hc
      obtain ⟨v, o, rfl, h1⟩ := ow.one
      exact ⟨_, .str _, rfl, by simp [isSc], fun q => ⟨_, _, rfl, h1.dp hc.1.1, D.okd_shaped hc.1.1, hc.1.2, by rw [sizeLine_eq]; exact hc.2, q⟩⟩
    · cases e
  · cases e
end
/-! ### how long it may be -/
mutual
def D.wt : D → Nat
  | .non => 6
  | .bl _ => 7
  | .int _ => 66
  | .str x => 10 * x.length + 4
  | .tup l => D.wtL l + 4
  | .lst l => D.wtL l + 4
  | .scr l => D.wtL l + 4
  | .dct _ _ => 4
def D.wtL : List D → Nat
  | [] => 0
  | d :: r => d.wt + 2 + D.wtL r
end
mutual
def D.small : D → Bool
  | .non => true
  | .bl _ => true
  | .int i => decide (i.natAbs < 2 ^ 60)
  | .str x => x.cps.all (· < 0x110000) && (reprText x).cps.all (· < 0x110000)
  | .tup l => D.smallL l
  | .lst l => D.smallL l
  | .scr l => D.smallL l
  | .dct _ _ => false
def D.smallL : List D → Bool
  | [] => true
  | d :: r => d.small && D.smallL r
end
theorem textFrom_le : ∀ (ts : List Str) (k : Nat) (acc : Str), (textFrom k acc ts).length ≤ acc.length + piled ts
  | [], k, acc => by show acc.length ≤ _; omega
  | t :: r, k, acc => by
    have ih := textFrom_le r (k + 1) (acc ++ (if k > 0 then ", " else "" : String) ++ t)
    have e : (acc ++ ((if k > 0 then ", " else "" : String) : Str) ++ t).length ≤ acc.length + 2 + t.length := by
      rw [strLen_append, strLen_append]
      have : (((if k > 0 then ", " else "" : String) : Str)).length ≤ 2 := by split <;> decide +kernel
      omega
    show (textFrom (k + 1) _ r).length ≤ _
    rw [piled_cons]
    omega
theorem listText_le (ts : List Str) : (listText ts).length ≤ piled ts + 2 := by
  unfold listText
  have h := textFrom_le ts 0 "["
  rw [strLen_append]
  have e1 : ((("[" : String) : Str)).length = 1 := rfl
  have e2 : ((("]" : String) : Str)).length = 1 := rfl
  omega
mutual
theorem D.shown_le : ∀ d : D, d.small = true → d.py.shown.length ≤ d.wt ∧ d.py.showable = true
  | .non, _ => ⟨by decide +kernel, rfl⟩
  | .bl b, _ => ⟨by cases b <;> decide +kernel, rfl⟩
  | .int i, h => by
    have h : i.natAbs < 2 ^ 60 := of_decide_eq_true h
    have hl : i.natAbs.log2 < 60 := by
      by_cases h0 : i.natAbs = 0
      · rw [h0]; decide
      · exact (Nat.log2_lt h0).mpr h
    refine ⟨?_, ?_⟩
    · show (Str.ofString (toString i)).length ≤ 66
      have := int_text_length_le (a := i) (k := 60) (by decide) hl
      rw [PySem.ofString_length]
      omega
    · show decide _ = true
      rw [decide_eq_true_eq]
      omega
  | .str x, h => by
    refine ⟨?_, rfl⟩
    have h : (x.cps.all (· < 0x110000) && (reprText x).cps.all (· < 0x110000)) = true := h
    rw [Bool.and_eq_true] at h
    have hx : ∀ c ∈ x.cps.toList, c < 16 ^ 8 := fun c hc => by
      have h' := (Array.all_eq_true_iff_forall_mem.mp h.1) c (by simpa using hc)
      have : c < 0x110000 := by simpa using h'
      omega
    have := StrLaws.reprText_len x hx
    show (reprText x).length ≤ 10 * x.length + 4
    omega
  | .tup l, h => by
    obtain ⟨a, b⟩ := D.shown_leL l h
    refine ⟨?_, by show PyData.showableAll _ = true; exact b⟩
    show (tupleText (PyData.shownAll (D.pyL l))).length ≤ D.wtL l + 4
    have := fmt_text (PyData.shownAll (D.pyL l))
    omega
  | .lst l, h => by
    obtain ⟨a, b⟩ := D.shown_leL l h
    refine ⟨?_, by show PyData.showableAll _ = true; exact b⟩
    show (listText (PyData.shownAll (D.pyL l))).length ≤ D.wtL l + 4
    have := listText_le (PyData.shownAll (D.pyL l))
    omega
  | .scr l, h => by
    obtain ⟨a, b⟩ := D.shown_leL l h
    refine ⟨?_, by show PyData.showableAll _ = true; exact b⟩
    show (listText (PyData.shownAll (D.pyL l))).length ≤ D.wtL l + 4
    have := listText_le (PyData.shownAll (D.pyL l))
    omega
  | .dct _ _, h => by cases h
theorem D.shown_leL : ∀ l : List D, D.smallL l = true → piled (PyData.shownAll (D.pyL l)) ≤ D.wtL l ∧ PyData.showableAll (D.pyL l) = true
  | [], _ => ⟨Nat.le_refl _, rfl⟩
  | d :: r, h => by
    unfold D.smallL at h
    rw [Bool.and_eq_true] at h
    obtain ⟨a, b⟩ := D.shown_le d h.1
    obtain ⟨a2, b2⟩ := D.shown_leL r h.2
    refine ⟨?_, ?_⟩
    · show piled (d.py.shown :: PyData.shownAll (D.pyL r)) ≤ d.wt + 2 + D.wtL r
      rw [piled_cons]
      omega
    · show (d.py.showable && PyData.showableAll (D.pyL r)) = true
      rw [b, b2]; rfl
end
def okS (x : Str) : Bool := x.cps.all (· < 0x110000)
theorem okS_app {x y : Str} : okS (x ++ y) = (okS x && okS y) := by
  show ((x.cps ++ y.cps).all _) = _
  rw [Array.all_append]
  rfl
theorem char_lt (c : Char) : c.toNat < 0x110000 := by
  rcases c.valid with h | ⟨_, h⟩
  · exact Nat.lt_trans h (by decide)
  · exact h
theorem okS_of (s : String) : okS (Str.ofString s) = true := by
  unfold okS
  rw [Str.ofString_eq_toList, Array.all_eq_true_iff_forall_mem]
  intro c hc
  simp only [List.mem_toArray, List.mem_map] at hc
  obtain ⟨a, _, rfl⟩ := hc
  exact decide_eq_true (char_lt a)
theorem okS_join : ∀ ts : List Str, (∀ t ∈ ts, okS t = true) → okS (Str.join ", " ts) = true
  | [], _ => okS_of ""
  | [x], h => h x (List.mem_cons_self ..)
  | x :: y :: r, h => by
    have ih := okS_join (y :: r) fun t ht => h t (List.mem_cons_of_mem _ ht)
    show okS (x ++ ", " ++ Str.join ", " (y :: r)) = true
    rw [okS_app, okS_app, ih, h x (List.mem_cons_self ..), okS_of]
    rfl
theorem okS_from : ∀ (ts : List Str) (k : Nat) (acc : Str), okS acc = true → (∀ t ∈ ts, okS t = true) → okS (textFrom k acc ts) = true
  | [], _, _, h, _ => h
  | t :: r, k, acc, h, ht => okS_from r (k + 1) _ (by rw [okS_app, okS_app, h, okS_of, ht t (List.mem_cons_self ..)]; rfl) fun x hx => ht x (List.mem_cons_of_mem _ hx)
mutual
theorem D.shown_okS : ∀ d : D, d.small = true → okS d.py.shown = true
  | .non, _ => okS_of _
  | .bl b, _ => by cases b <;> exact okS_of _
  | .int i, h => okS_of _
  | .str x, h => by
    have h : (x.cps.all (· < 0x110000) && (reprText x).cps.all (· < 0x110000)) = true := h
    rw [Bool.and_eq_true] at h
    exact h.2
  | .tup l, h => by
    show okS (tupleText (PyData.shownAll (D.pyL l))) = true
    unfold tupleText
    rw [okS_app, okS_app, okS_of, okS_of, okS_join _ (D.shown_okSL l h)]
    rfl
  | .lst l, h => by
    show okS (listText (PyData.shownAll (D.pyL l))) = true
    unfold listText
    rw [okS_app, okS_of, okS_from _ _ _ (okS_of _) (D.shown_okSL l h)]
    rfl
  | .scr l, h => by
    show okS (listText (PyData.shownAll (D.pyL l))) = true
    unfold listText
    rw [okS_app, okS_of, okS_from _ _ _ (okS_of _) (D.shown_okSL l h)]
    rfl
  | .dct _ _, h => by cases h
theorem D.shown_okSL : ∀ l : List D, D.smallL l = true → ∀ t ∈ PyData.shownAll (D.pyL l), okS t = true
  | [], _, t, ht => by simp [D.pyL, PyData.shownAll] at ht
  | d :: r, h, t, ht => by
    unfold D.smallL at h
    rw [Bool.and_eq_true] at h
    have ht : t ∈ d.py.shown :: PyData.shownAll (D.pyL r) := ht
    rcases List.mem_cons.mp ht with e | ht
    · rw [e]; exact D.shown_okS d h.1
    · exact D.shown_okSL r h.2 t ht
end
theorem f_repr {d : D} {k : Nat} (h1 : d.okd 60 = true) (h2 : d.small = true) (h3 : d.wt ≤ 16777216) : fRepr [⟨d, k⟩] = .ok ⟨.str d.py.shown, 0⟩ := by
  obtain ⟨a, b⟩ := d.shown_le h2
  unfold fRepr
  have : d.py.shown.length ≤ 16777216 := by omega
  simp only [h1, b, Bool.and_true, Bool.true_and, this, decide_true, if_true]
  rfl
/-- the text that repr makes -/
def D.rp (d : D) : D := .str d.py.shown
theorem f_reprR {d : D} {k : Nat} (h1 : d.okd 60 = true) (h2 : d.small = true) (h3 : d.wt ≤ 16777216) : fRepr [⟨d, k⟩] = .ok ⟨d.rp, 0⟩ := f_repr h1 h2 h3
theorem D.rp_okd {d : D} (h : d.small = true) : d.rp.okd 60 = true := d.shown_okS h
theorem f_neR {d : D} {k k' : Nat} (h : d.small = true) : fNe [⟨d.rp, k⟩, ⟨d.rp, k'⟩] = .ok ⟨.bl false, 0⟩ := f_neSelf (D.rp_okd h)
theorem f_eqR {d : D} {k k' : Nat} (h : d.small = true) : fEq [⟨d.rp, k⟩, ⟨d.rp, k'⟩] = .ok ⟨.bl true, 0⟩ := f_eqSelf (D.rp_okd h)
theorem f_neS {x y : Str} {k k' : Nat} (hx : D.okd 60 (.str x) = true) (hy : D.okd 60 (.str y) = true) : fNe [⟨.str x, k⟩, ⟨.str y, k'⟩] = .ok ⟨.bl (!decide (x = y)), 0⟩ := by
  unfold fNe
  have e : D.eqv (.str x) (.str y) = decide (x = y) := by
    show (x == y) = _
    by_cases q : x = y <;> simp [q]
  simp only [hx, hy, Bool.and_true, if_true, e]
  rfl
theorem u70 {k : Nat} {A : Around} (r : RoomG k A) : A.units + 70 < cLine := by have := r.r.un; omega
theorem FnOkG.bad {P : Program} {W : World} {K : PySem.W.Frag} {mg : Str → Option Value} {base : Heap} {C : CXT} {lv : Nat} {fa : Addr} {fd : FuncData} {pn : List Str} {np : Nat} : FnOkG P W K mg base C lv fa fd pn (spD K np fun _ => .bad) :=
  ⟨fun _ _ _ _ ⟨_, _, _, _, _, _, _, h, _⟩ => (nomatch h), fun _ _ _ _ _ _ _ _ _ _ _ _ _ ⟨_, _, _, _, _, _, _, h, _⟩ => (nomatch h)⟩
end Z

/-! Z: more lemmas to compute with. -/
namespace Z
open PySem PySem.Spec PyProof.Rows L2
section
variable {it : ItD} {g g1 : MG} {tt tt1 : MT} {mi1 : MI} {me : AE} {vs vs1 : List Nat} {α β : Type} {ρ : Env}
theorem loopC2_cons {d : D} {r : List D} : loopC2 it g tt mi1 g1 tt1 me vs vs1 (d :: r) ρ = (do
    let ρa ← g d [] ρ
    let (b, ρb) ← tt ρa
    if b then do
      let (it1, ρc) ← mi1 ρb
      if chkOk it1 (wipeE ρc vs1) then do
        let (acc1, ρd) ← loopC it1 g1 tt1 me vs1 it1.items (wipeE ρc vs1)
        if chkOk it (wipeE ρd vs) then do
          let (acc, ρe) ← loopC2 it g tt mi1 g1 tt1 me vs vs1 r (wipeE ρd vs)
          R.ok (acc1 ++ acc, ρe)
        else R.bad
      else R.bad
    else if chkOk it (wipeE ρb vs) then loopC2 it g tt mi1 g1 tt1 me vs vs1 r (wipeE ρb vs) else R.bad) := rfl
/-- two clauses without tests -/
theorem comp2_m (toD : α → D) (inner : α → List β) (toE : β → D) (f : α → β → D) (env : α → Env) (hck : chkOk it ρ = true) {ds : List α}
    (h : ∀ a ∈ ds, ∃ c1, g (toD a) [] ρ = .ok (env a) ∧ tt (env a) = .ok (true, env a) ∧ mi1 (env a) = .ok (⟨(inner a).map toE, c1⟩, env a) ∧ chkOk ⟨(inner a).map toE, c1⟩ (wipeE (env a) vs1) = true ∧
      (∀ b ∈ inner a, comp1 ⟨(inner a).map toE, c1⟩ g1 tt1 me vs1 (toE b) (wipeE (env a) vs1) = .ok (some (f a b), wipeE (env a) vs1)) ∧ wipeE (wipeE (env a) vs1) vs = ρ) :
    loopC2 it g tt mi1 g1 tt1 me vs vs1 (ds.map toD) ρ = .ok (ds.flatMap fun a => (inner a).map (f a), ρ) := by
  induction ds with
  | nil => rfl
  | cons a r ih =>
    obtain ⟨c1, h1, h2, h3, h4, h5, h6⟩ := h a (List.mem_cons_self ..)
    have e := comp_m (it := ⟨(inner a).map toE, c1⟩) (ρ := wipeE (env a) vs1) toE (f a) h5
    rw [List.map_cons, loopC2_cons, h1]
    simp only [R.ok_bind]
    rw [h2]
    simp only [R.ok_bind, if_true]
    rw [h3]
    simp only [R.ok_bind]
    rw [if_pos h4, e]
    simp only [R.ok_bind]
    rw [h6, if_pos hck, ih fun x hx => h x (List.mem_cons_of_mem _ hx)]
    rfl
end
@[simp] theorem mComp2_ap {mi mi1 : MI} {g g1 : MG} {tt tt1 : MT} {me : AE} {vs vs1 : List Nat} {ρ : Env} : mComp2 mi g tt mi1 g1 tt1 me vs vs1 ρ = (do
  let (it, ρ1) ← mi ρ
  if ownOk ρ1 vs && chkOk it (wipeE ρ1 vs) then do
    let (acc, ρ2) ← loopC2 it g tt mi1 g1 tt1 me vs vs1 it.items (wipeE ρ1 vs)
    if acc.length ≤ 16777216 then R.ok (.v ⟨.lst acc, 1⟩, restore ρ2 ρ1 vs) else R.bad
  else R.bad) := rfl
@[simp] theorem mSl_ap {a : AE} {lo hi : Option AE} {ρ : Env} : mSl a lo hi ρ = (do
  let (s, ρ1) ← a ρ
  let (l, ρ2) ← evO lo ρ1
  let (u, ρ3) ← evO hi ρ2
  match s.cell ρ3 with
  | some c => do
    let r ← fSl c l u
    R.ok (.v r, ρ3)
  | none => R.bad) := rfl
@[simp] theorem evO_none {ρ : Env} : evO none ρ = .ok (none, ρ) := rfl
@[simp] theorem evO_some {m : AE} {ρ : Env} : evO (some m) ρ = (do
    let (s, ρ1) ← m ρ
    match s.cell ρ1 with
    | some ⟨.int i, _⟩ => R.ok (some i, ρ1)
    | _ => R.bad) := rfl
@[simp] theorem fSl_tup {l : List D} {k : Nat} {a b : Option Int} : fSl ⟨.tup l, k⟩ a b = .ok ⟨.tup (cutD l a b), 0⟩ := rfl
@[simp] theorem fSl_lst1 {l : List D} {a b : Option Int} : fSl ⟨.lst l, 1⟩ a b = .ok ⟨.lst (cutD l a b), 1⟩ := rfl
@[simp] theorem fSl_lst0 {l : List D} {a b : Option Int} : fSl ⟨.lst l, 0⟩ a b = .ok ⟨.lst (cutD l a b), 1⟩ := rfl
@[simp] theorem f_tupT {l : List D} {k : Nat} : fTuple [⟨.tup l, k⟩] = .ok ⟨.tup l, 0⟩ := rfl
@[simp] theorem f_tupL0 {l : List D} : fTuple [⟨.lst l, 0⟩] = .ok ⟨.tup l, 0⟩ := rfl
@[simp] theorem f_listL1 {l : List D} : fList [⟨.lst l, 1⟩] = .ok ⟨.lst l, 1⟩ := rfl
@[simp] theorem f_listL0 {l : List D} : fList [⟨.lst l, 0⟩] = .ok ⟨.lst l, 1⟩ := rfl
theorem ixT {l : List D} {d : D} {i : Nat} {k k' : Nat} (h : l[i]? = some d) : fIx [⟨.tup l, k⟩, ⟨.int (i : Int), k'⟩] = .ok ⟨d, 0⟩ := by
  obtain ⟨hi, e⟩ := List.getElem?_eq_some_iff.mp h
  exact p_ixT ((atI_nat hi).trans (by rw [e]))
theorem ixL {l : List D} {d : D} {i : Nat} {k k' : Nat} (hk : k ≤ 1) (h : l[i]? = some d) : fIx [⟨.lst l, k⟩, ⟨.int (i : Int), k'⟩] = .ok ⟨d, 0⟩ := by
  obtain ⟨hi, e⟩ := List.getElem?_eq_some_iff.mp h
  exact p_ixL hk ((atI_nat hi).trans (by rw [e]))
theorem ixT0 {a : D} {r : List D} {k k' : Nat} : fIx [⟨.tup (a :: r), k⟩, ⟨.int 0, k'⟩] = .ok ⟨a, 0⟩ := ixT (i := 0) rfl
theorem ixT1 {a b : D} {r : List D} {k k' : Nat} : fIx [⟨.tup (a :: b :: r), k⟩, ⟨.int 1, k'⟩] = .ok ⟨b, 0⟩ := ixT (i := 1) rfl
theorem ixT2 {a b c : D} {r : List D} {k k' : Nat} : fIx [⟨.tup (a :: b :: c :: r), k⟩, ⟨.int 2, k'⟩] = .ok ⟨c, 0⟩ := ixT (i := 2) rfl
theorem ixT3 {a b c d : D} {r : List D} {k k' : Nat} : fIx [⟨.tup (a :: b :: c :: d :: r), k⟩, ⟨.int 3, k'⟩] = .ok ⟨d, 0⟩ := ixT (i := 3) rfl
theorem ixT4 {a b c d e : D} {r : List D} {k k' : Nat} : fIx [⟨.tup (a :: b :: c :: d :: e :: r), k⟩, ⟨.int 4, k'⟩] = .ok ⟨e, 0⟩ := ixT (i := 4) rfl
theorem f_sumL {l : List Int} : fSum [⟨.lst (l.map D.int), 1⟩] = .ok ⟨.int l.sum, 0⟩ := by
  unfold fSum onInts
  simp only [asInts_map, R.ok_bind]
  rfl
theorem asBls_map' (l : List Bool) : asBls (l.map D.bl) = some l := by
  induction l with
  | nil => rfl
  | cons a r ih => rw [List.map_cons, asBls, ih]
theorem f_allL {l : List Bool} : fAll [⟨.lst (l.map D.bl), 1⟩] = .ok ⟨.bl (l.all id), 0⟩ := by
  unfold fAll onBls
  simp only [asBls_map']
  first | done | simp
theorem f_anyL {l : List Bool} : fAny [⟨.lst (l.map D.bl), 1⟩] = .ok ⟨.bl (l.any id), 0⟩ := by
  unfold fAny onBls
  simp only [asBls_map']
  first | done | simp
/-! ### rows of parts -/
def prodL {α : Type} (parts : List (List α)) : List (List α) := parts.foldl (fun rows part => rows.flatMap fun row => part.map fun x => row ++ [x]) [[]]
theorem prodL_snoc {α : Type} (parts : List (List α)) (p : List α) : prodL (parts ++ [p]) = (prodL parts).flatMap fun row => p.map fun x => row ++ [x] := by
  unfold prodL
  rw [List.foldl_append]
  rfl
theorem prodL_foldl {α : Type} : ∀ (parts : List (List α)) (rows : List (List α)), parts.foldl (fun rows part => rows.flatMap fun row => part.map fun x => row ++ [x]) rows = rows.flatMap fun row => (prodL parts).map fun z => row ++ z
  | [], rows => by simp [prodL]
  | p :: ps, rows => by
    have e : prodL (p :: ps) = ([[]].flatMap fun row => p.map fun x => row ++ [x]).flatMap fun row => (prodL ps).map fun z => row ++ z := prodL_foldl ps _
    rw [List.foldl_cons, prodL_foldl ps, e]
    simp [List.flatMap_assoc, List.map_flatMap, List.flatMap_map, Function.comp_def, List.append_assoc]
theorem prodL_cons {α : Type} (p : List α) (parts : List (List α)) : prodL (p :: parts) = p.flatMap fun x => (prodL parts).map fun z => x :: z := by
  have := prodL_foldl parts (p.map fun x => [x])
  show parts.foldl _ ([[]].flatMap fun row => p.map fun x => row ++ [x]) = _
  simp only [List.flatMap_cons, List.flatMap_nil, List.append_nil, List.nil_append]
  rw [this, List.flatMap_map]
  rfl
theorem prodL_length {α : Type} : ∀ parts : List (List α), (prodL parts).length = (parts.map List.length).foldr (· * ·) 1
  | [] => rfl
  | p :: ps => by
    rw [prodL_cons, List.map_cons, List.foldr_cons, ← prodL_length ps]
    induction p with
    | nil => simp
    | cons a r ih => rw [List.flatMap_cons, List.length_append, ih, List.length_map, List.length_cons, Nat.succ_mul]; omega
theorem prodL_mem {α : Type} : ∀ {parts : List (List α)} {row : List α}, row ∈ prodL parts ↔ Paired (fun x p => x ∈ p) row parts
  | [], row => by
    show row ∈ [[]] ↔ _
    rw [List.mem_singleton]
    exact ⟨fun h => h ▸ .nil, fun h => by cases h; rfl⟩
  | p :: ps, row => by
    rw [prodL_cons, List.mem_flatMap]
    constructor
    · rintro ⟨x, hx, h⟩
      obtain ⟨z, hz, rfl⟩ := List.mem_map.mp h
      exact .cons hx (prodL_mem.mp hz)
    · intro h
      cases h with
      | cons hx hz => exact ⟨_, hx, List.mem_map.mpr ⟨_, prodL_mem.mpr hz, rfl⟩⟩
end Z

/-! Z: lists of lists that are changed. -/
namespace Z
open PySem PySem.Spec PyProof.Rows L2
/-! ### [[..], [..]], to be changed -/
def freshes : List Src → Option (List (List D))
  | [] => some []
  | .v ⟨.lst l, 1⟩ :: r => (freshes r).map (l :: ·)
  | _ => none
def mLst2 (ms : List AE) : AE := fun ρ => do
  let (ss, ρ1) ← evs ms ρ
  match freshes ss with
  | some ls => R.ok (.v ⟨.lst (ls.map D.lst), 2⟩, ρ1)
  | none => R.bad
/-- all temps from n on are n's -/
def OM.from (w : OM) (n : Nat) : OM := fun a => match w a with
  | .tm m => if n ≤ m then .tm n else .tm m
  | o => o
theorem OM.from_no {w : OM} {n : Nat} {a : Addr} (h : w a = .no) : w.from n a = .no := by unfold OM.from; rw [h]
theorem OM.from_sl {w : OM} {n i : Nat} {a : Addr} (h : w a = .sl i) : w.from n a = .sl i := by unfold OM.from; rw [h]
theorem OM.from_tm {w : OM} {n m : Nat} {a : Addr} (h : w a = .tm m) (hm : n ≤ m) : w.from n a = .tm n := by unfold OM.from; rw [h]; exact if_pos hm
theorem OM.from_fixed {w : OM} {n : Nat} {a : Addr} (h : Fixed n (w a)) : w.from n a = w a := by
  unfold OM.from
  rcases h with h | h | ⟨j, hj, h⟩
  · rw [h]
  · rw [h]
  · rw [h]; exact if_neg (by omega)
section
variable {X : Cx} {K : PySem.W.Frag} {H : Hp} {w : OM} {σ : L2.St} {ρ : Env} {n : Nat}
theorem Ok.from (ok : Ok K H w σ ρ) (n : Nat) : Ok K H (w.from n) σ ρ := by
  refine ⟨ok.len, fun i c e => ?_, fun a h => ok.live a fun z => h (OM.from_no z)⟩
  obtain ⟨v, e1, q⟩ := ok.slot i c e
  exact ⟨v, e1, q.map (fun a z => OM.from_no z) fun a z => OM.from_sl z⟩
theorem freshes_ow : ∀ {ss : List Src} {vs : List V} {ls : List (List D)} {m : Nat}, SrcsAt K H w σ m ss vs → n ≤ m → freshes ss = some ls →
    Ow1L K H (w.from n) (.tm n) (ls.map D.lst) vs ∧ vs.Nodup ∧ ∀ v ∈ vs, ∃ a j, v = .ref a ∧ w a = .tm j ∧ m ≤ j ∧ H a ≠ none
  | [], [], ls, m, _, _, e => by cases e; exact ⟨.nil, List.nodup_nil, fun v hv => by simp at hv⟩
  | [], _ :: _, _, _, h, _, _ => h.elim
  | _ :: _, [], _, _, h, _, _ => h.elim
  | s :: ss, v :: vs, ls, m, ⟨h, t⟩, hm, e => by
    unfold freshes at e
    split at e
    · rename_i heq; cases heq
    · rename_i l r heq
      obtain ⟨rfl, rfl⟩ := List.cons.inj heq
      obtain ⟨ls', e1, rfl⟩ := Option.map_eq_some_iff.mp e
      obtain ⟨a1, a2, a3⟩ := freshes_ow t (by omega) e1
      have h : Ow K H w (.tm m) 1 (.lst l) v := h
      cases h with
      | lst hH hw hf =>
        rename_i a us
        have hna : V.ref a ∉ vs := fun z => by
          obtain ⟨b, j, e, hb, hj, _⟩ := a3 _ z
          cases e
          rw [hw] at hb
          cases hb
          omega
        refine ⟨.cons hH (OM.from_tm hw hm) (hf.map fun a z => OM.from_no z) a1, List.nodup_cons.mpr ⟨hna, a2⟩, fun u hu => ?_⟩
        rcases List.mem_cons.mp hu with rfl | hu
        · exact ⟨a, m, rfl, hw, Nat.le_refl m, by rw [hH]; exact fun z => nomatch z⟩
        · obtain ⟨b, j, e, hb, hj, hl⟩ := a3 _ hu
          exact ⟨b, j, e, hb, by omega, hl⟩
    · cases e
theorem Ow1L.step2 {H' : Hp} {w' : OM} {o : Own} (k : Kp .no H w H' w') : ∀ {ds : List D} {vs : List V}, Ow1L K H w o ds vs → (∀ a, V.ref a ∈ vs → H' a = H a ∧ w' a = w a) → Ow1L K H' w' o ds vs
  | _, _, .nil, _ => .nil
  | _, _, .cons h n t r, q => .cons ((q _ (List.mem_cons_self ..)).1.trans h) ((q _ (List.mem_cons_self ..)).2.trans n) (t.step k) (Ow1L.step2 k r fun a ha => q a (List.mem_cons_of_mem _ ha))
theorem sa_lst2 {es : List Expr} {ms : List AE} {pos : Pos} (h : SAs X es ms) (hl : ms.length ≤ 1000 := by decide) : SA X (.List es pos) (mLst2 ms) := by
  obtain ⟨t, p, g⟩ := h.ex
  refine ⟨_, pe_lst p, fun n σ H w ρ s ρ' Q ok hm k => ?_⟩
  obtain ⟨⟨ss, ρ1⟩, e1, hm⟩ := R.of_bind hm
  dsimp only at hm
  split at hm
  · rename_i ls hls
    cases hm
    refine g n σ H w ρ ss _ _ ok e1 fun vs H1 w1 ok1 st1 sa => ?_
    obtain ⟨a1, a2, a3⟩ := freshes_ow sa (Nat.le_refl n) hls
    refine ⟨by rw [sizeLine_eq, ← sa.length, evs_length e1]; omega, fun p hp => ?_⟩
    have hpv : V.ref p ∉ vs := fun z => by
      obtain ⟨b, j, e, _, _, hb⟩ := a3 _ z
      cases e
      exact hb hp
    have st2 : Step n H1 w1 H1 (w1.from n) := fun a x e f => ⟨e, OM.from_fixed f⟩
    refine k _ _ ((w1.from n).put p (.tm n)) ((ok1.from n).new hp _) ((st1.trans st2).trans (Step.new hp)) ?_
    refine .lst2 upd_same OM.put_same (a1.step2 (Kp.new hp .no) fun a ha => ?_) (List.nodup_cons.mpr ⟨hpv, a2⟩)
    have hap : a ≠ p := fun z => hpv (z ▸ ha)
    exact ⟨upd_ne hap, OM.put_ne hap⟩
  · cases hm
/-! ### a slot with a list of lists -/
theorem Ok.slot2 {i : Nat} {ls : List D} (ok : Ok K H w σ ρ) (hi : ρ.get i = some ⟨.lst ls, 2⟩) : ∃ a vs, σ[i]? = some (some (.ref a)) ∧ H a = some (.lst vs) ∧ w a = .sl i ∧ Ow1L K H w (.sl i) ls vs ∧ (V.ref a :: vs).Nodup := by
  obtain ⟨v, e, ow⟩ := ok.slot i _ hi
  cases ow with
  | lst2 h n t nd => exact ⟨_, _, e, h, n, t, nd⟩
theorem Ow1L.own {o : Own} : ∀ {ds : List D} {vs : List V}, Ow1L K H w o ds vs → ∀ a, V.ref a ∈ vs → w a = o ∧ H a ≠ none
  | _, _, .nil, a, h => by simp at h
  | _, _, .cons h n _ r, a, ha => by
    rcases List.mem_cons.mp ha with e | ha
    · cases e; exact ⟨n, by rw [h]; exact fun z => nomatch z⟩
    · exact Ow1L.own r a ha
theorem Ow1L.snoc {o : Own} {b : Addr} {us : List V} {l : List D} : ∀ {ds : List D} {vs : List V}, Ow1L K H w o ds vs → H b = some (.lst us) → w b = o → FzL K H w l us → Ow1L K H w o (ds ++ [.lst l]) (vs ++ [.ref b])
  | _, _, .nil, h, n, t => .cons h n t .nil
  | _, _, .cons h1 n1 t1 r, h, n, t => .cons h1 n1 t1 (Ow1L.snoc r h n t)
/-- the slot i is given to the temp n while something is worked out -/
theorem Ok.lend {i n : Nat} (ok : Ok K H w σ ρ) : Ok K H (w.re (.sl i) (.tm n)) σ (ρ.set i none) := by
  refine ⟨by rw [Env.length_set]; exact ok.len, fun j x q => ?_, fun a h => ?_⟩
  · rcases Env.get_set q with ⟨_, z⟩ | ⟨hj, z⟩
    · cases z
    · obtain ⟨u, e1, ow⟩ := ok.slot j x z
      exact ⟨u, e1, ow.other (by intro z; cases z) (by intro z; cases z; exact hj rfl)⟩
  · by_cases z : w a = .sl i
    · exact ok.live a (by rw [z]; intro q; cases q)
    · rw [OM.re_ne z] at h; exact ok.live a h
/-- the slot i takes what the temp n has -/
theorem Ok.giveBack {i n : Nat} {a : Addr} {vs : List V} {ls : List D} (ok : Ok K H w σ ρ) (hs : σ[i]? = some (some (.ref a))) (hH : H a = some (.lst vs)) (hw : w a = .tm n) (o1 : Ow1L K H w (.tm n) ls vs) (nd : (V.ref a :: vs).Nodup) :
    Ok K H (w.re (.tm n) (.sl i)) σ (ρ.set i (some ⟨.lst ls, 2⟩)) := by
  refine ⟨by rw [Env.length_set]; exact ok.len, fun j x q => ?_, fun b h => ?_⟩
  · rcases Env.get_set q with ⟨ej, z⟩ | ⟨hj, z⟩
    · subst ej
      cases z
      exact ⟨_, hs, .lst2 hH (OM.re_eq hw) (o1.re (by intro z; cases z)) nd⟩
    · obtain ⟨u, e1, ow⟩ := ok.slot j x z
      exact ⟨u, e1, ow.other (by intro z; cases z) (by intro z; cases z)⟩
  · by_cases z : w b = .tm n
    · exact ok.live b (by rw [z]; intro q; cases q)
    · rw [OM.re_ne z] at h; exact ok.live b h
/-- x.append([..]) -/
def mApp2 (i : Nat) (m : AE) : AE := fun ρ => match ρ.get i with
  | some ⟨.lst _, 2⟩ => do
    let (s, ρ1) ← m ρ
    match s, ρ1.get i with
    | .v ⟨.lst l, 1⟩, some ⟨.lst ls, 2⟩ => if ls.length < 16777216 then R.ok (.v (Cell.fz .non), ρ1.set i (some ⟨.lst (ls ++ [.lst l]), 2⟩)) else R.bad
    | _, _ => R.bad
  | _ => R.bad
theorem sa_app2 {i : Nat} {x : Str} {e : Expr} {m : AE} {p apos cpos : Pos} (ha : SA X e m)
    (hN : X.N[i]? = some x := by rfl) (hv : Vis X.env.scope x := by first | exact Or.inl rfl | exact Or.inr (Or.inl rfl) | exact Or.inr (Or.inr rfl)) (hd : (x == ("__debug__" : Str)) = false := by decide) (hcd : (x == ("__classdict__" : Str)) = false := by decide)
    (hbase : attributeBase (.Name x p) "append" X.env (eval (.Name x p) X.env) = eval (.Name x p) X.env := by rfl)
    (hfew : ((backTo cpos (starEach [e] X.env)).all (fun x => !x.1) && (backToKw cpos (keywordEach [] X.env)).all (fun x => x.1.isSome)
      && decide (([e] : List Expr).length + ([] : List Keyword).length + (if ([] : List Keyword).isEmpty then 0 else 1) < 30)) = true := by rfl)
    (hline : (apos.endLine == cpos.line) = true := by rfl) (hst : starEach [e] X.env = (false, eval e X.env) :: starEach [] X.env := by rfl) (hplain : (backTo cpos (starEach [] X.env)).any (·.1) = false := by rfl) :
    SA X (.Call (.Attribute (.Name x p) "append" apos) [e] [] cpos) (mApp2 i m) := by
  obtain ⟨t, q, g⟩ := ha.ex
  refine ⟨_, pe_bm PySem.F.plainAttrs_list PySem.F.slot_list_append PySem.F.type_list_append mt_append (pe_var hN hv hd hcd) (pa_cons q pa_nil hst) hbase hfew hline hst hplain, fun n σ H w ρ s ρ' Q ok hm k => ?_⟩
  unfold mApp2 at hm
  split at hm
  · rename_i l0 hl0
    obtain ⟨⟨s1, ρ1⟩, e1, hm⟩ := R.of_bind hm
    dsimp only at hm
    split at hm
    · rename_i l ls hls
      split at hm
      · rename_i hlen
        cases hm
        obtain ⟨a, vs0, ea, hH0, _⟩ := ok.slot2 hl0
        refine ⟨_, ea, .inl ⟨rfl, vs0, .inl (.inl hH0)⟩, ?_⟩
        refine g n σ H w ρ _ _ _ ok e1 fun v H1 w1 ok1 st1 sa => ?_
        obtain ⟨a2, vs, ea2, hH2, hw2, o2, nd⟩ := ok1.slot2 hls
        rw [ea] at ea2
        cases ea2
        have sa : Ow X.K H1 w1 (.tm n) 1 (.lst l) v := sa
        cases sa with
        | lst hb hwb hfb =>
          rename_i b us
          have hba : b ≠ a := fun z => by rw [z, hw2] at hwb; cases hwb
          have hbv : V.ref b ∉ vs := fun z => by
            have := (o2.own b z).1
            rw [hwb] at this; cases this
          have hav : V.ref a ∉ vs := (List.nodup_cons.mp nd).1
          refine ⟨a, vs, _, rfl, rfl, hH2, by rw [sizeLine_eq, ← o2.sqs]; exact hlen, ?_⟩
          have ow' := w1.re (.tm n) (.sl i)
          have kp : Kp .no H1 w1 (upd H1 a (.lst (vs ++ [.ref b]))) (w1.re (.tm n) (.sl i)) := fun c y e f => by
            have f : w1 c = .no := f.elim id id
            have hca : c ≠ a := fun z => by rw [z, hw2] at f; cases f
            exact ⟨by rw [upd_ne hca]; exact e, OM.re_ne (by rw [f]; intro z; cases z)⟩
          refine k .non _ (w1.re (.tm n) (.sl i)) ⟨by rw [Env.length_set]; exact ok1.len, fun j y z => ?_, fun c h => ?_⟩ ?_ (.fz .non)
          · rcases Env.get_set z with ⟨ej, zz⟩ | ⟨hj, zz⟩
            · subst ej
              cases zz
              refine ⟨_, ea, .lst2 upd_same ((OM.re_ne (by rw [hw2]; intro z; cases z)).trans hw2) (Ow1L.snoc (us := us) ?_ ((upd_ne hba).trans hb) (OM.re_eq hwb) (hfb.step kp)) ?_⟩
              · refine o2.step2 kp fun c hc => ⟨upd_ne fun z => hav (z ▸ hc), OM.re_ne ?_⟩
                rw [(o2.own c hc).1]; intro z; cases z
              · rw [← List.cons_append]
                refine List.nodup_append.mpr ⟨nd, by simp, fun y hy z hz => ?_⟩
                rw [List.mem_singleton] at hz
                subst hz
                rcases List.mem_cons.mp hy with rfl | hy
                · intro z; cases z; exact hba rfl
                · intro z; exact hbv (z ▸ hy)
            · obtain ⟨u, e3, ow⟩ := ok1.slot j y zz
              refine ⟨u, e3, ow.step fun c y e f => ?_⟩
              have hca : c ≠ a := fun z => by
                rw [z, hw2] at f
                rcases f with f | f
                · cases f
                · cases f; exact hj rfl
              refine ⟨by rw [upd_ne hca]; exact e, OM.re_ne ?_⟩
              rcases f with f | f <;> rw [f] <;> intro z <;> cases z
          · by_cases hca : c = a
            · subst hca; rw [upd_same]; exact fun z => nomatch z
            · rw [upd_ne hca]
              by_cases hct : w1 c = .tm n
              · exact ok1.live c (by rw [hct]; intro z; cases z)
              · rw [OM.re_ne hct] at h; exact ok1.live c h
          · refine st1.trans fun c y e f => ?_
            have hca : c ≠ a := fun z => by rw [z, hw2] at f; exact not_fixed_sl f
            refine ⟨by rw [upd_ne hca]; exact e, OM.re_ne fun z => ?_⟩
            rw [z] at f; exact not_fixed_tm f
      · cases hm
    · cases hm
  · cases hm
theorem Ow1L.at {o : Own} {l : List D} : ∀ {ds : List D} {vs : List V} (q : Nat), Ow1L K H w o ds vs → ds[q]? = some (.lst l) → ∃ b us, vs[q]? = some (.ref b) ∧ H b = some (.lst us) ∧ w b = o ∧ FzL K H w l us
  | _, _, 0, .cons h n t _, e => by
    rw [List.getElem?_cons_zero] at e
    cases e
    exact ⟨_, _, List.getElem?_cons_zero, h, n, t⟩
  | _, _, q + 1, .cons _ _ _ r, e => by
    rw [List.getElem?_cons_succ] at e
    rw [List.getElem?_cons_succ]
    exact Ow1L.at q r e
  | _, _, q, .nil, e => by simp at e
theorem Ow1L.write {o : Own} {b : Addr} {us : List V} {l : List D} (hb : w b = o) (ho : o ≠ .no) (t : FzL K H w l us) : ∀ {ds : List D} {vs : List V} (q : Nat), Ow1L K H w o ds vs → vs.Nodup → vs[q]? = some (.ref b) → Ow1L K (upd H b (.lst us)) w o (ds.set q (.lst l)) vs
  | _, _, 0, .cons h n t1 r, nd, e => by
    rw [List.getElem?_cons_zero] at e
    cases e
    rw [List.set_cons_zero]
    have kp : Kp .no H w (upd H b (.lst us)) w := Kp.write (by rw [hb]; exact ho) (by rw [hb]; exact ho)
    exact .cons upd_same n (t.step kp) (r.step2 kp fun c hc => ⟨upd_ne fun z => (List.nodup_cons.mp nd).1 (z ▸ hc), rfl⟩)
  | _, _, q + 1, .cons h n t1 r, nd, e => by
    rw [List.getElem?_cons_succ] at e
    rw [List.set_cons_succ]
    have kp : Kp .no H w (upd H b (.lst us)) w := Kp.write (by rw [hb]; exact ho) (by rw [hb]; exact ho)
    exact .cons ((upd_ne (by
      intro z
      exact (List.nodup_cons.mp nd).1 (z ▸ List.mem_of_getElem? e))).trans h) n (t1.step kp) (Ow1L.write hb ho t q r (List.nodup_cons.mp nd).2 e)
  | _, _, q, .nil, nd, e => by simp at e
/-- x[i].append(v) -/
def mAppIx (i : Nat) (mi m : AE) : AE := fun ρ => match ρ.get i with
  | some ⟨.lst _, 2⟩ => do
    let (si, ρ1) ← mi ρ
    match si.cell ρ1, ρ1.get i with
    | some ⟨.int j, _⟩, some ⟨.lst ls, 2⟩ =>
      match ixN ls.length j with
      | some q => match ls[q]? with
        | some (.lst l) => do
          let (s, ρ2) ← m (ρ1.set i none)
          let (c, ρ3) ← esc s ρ2
          if l.length < 16777216 then R.ok (.v (Cell.fz .non), ρ3.set i (some ⟨.lst (ls.set q (.lst (l ++ [c.d]))), 2⟩)) else R.bad
        | _ => R.bad
      | none => R.bad
    | _, _ => R.bad
  | _ => R.bad
theorem sa_appIx {i : Nat} {x : Str} {b e : Expr} {mi m : AE} {p tp apos cpos : Pos} (hb : SA X b mi) (ha : SA X e m)
    (hN : X.N[i]? = some x := by rfl) (hv : Vis X.env.scope x := by first | exact Or.inl rfl | exact Or.inr (Or.inl rfl) | exact Or.inr (Or.inr rfl)) (hd : (x == ("__debug__" : Str)) = false := by decide) (hcd : (x == ("__classdict__" : Str)) = false := by decide)
    (hs : PlainIx b := by exact fun _ _ => rfl)
    (hbase : attributeBase (.Subscript (.Name x p) b tp) "append" X.env (eval (.Subscript (.Name x p) b tp) X.env) = eval (.Subscript (.Name x p) b tp) X.env := by rfl)
    (hfew : ((backTo cpos (starEach [e] X.env)).all (fun x => !x.1) && (backToKw cpos (keywordEach [] X.env)).all (fun x => x.1.isSome)
      && decide (([e] : List Expr).length + ([] : List Keyword).length + (if ([] : List Keyword).isEmpty then 0 else 1) < 30)) = true := by rfl)
    (hline : (apos.endLine == cpos.line) = true := by rfl) (hst : starEach [e] X.env = (false, eval e X.env) :: starEach [] X.env := by rfl) (hplain : (backTo cpos (starEach [] X.env)).any (·.1) = false := by rfl) :
    SA X (.Call (.Attribute (.Subscript (.Name x p) b tp) "append" apos) [e] [] cpos) (mAppIx i mi m) := by
  obtain ⟨t, q, g⟩ := ha.ex
  obtain ⟨u, q2, g2⟩ := hb.ex
  refine ⟨_, pe_bm PySem.F.plainAttrs_list PySem.F.slot_list_append PySem.F.type_list_append mt_append (pe_ix ix_seq (pe_var hN hv hd hcd) q2 hs) (pa_cons q pa_nil hst) hbase hfew hline hst hplain, fun n σ H w ρ s ρ' Q ok hm k => ?_⟩
  unfold mAppIx at hm
  split at hm
  · rename_i l0 hl0
    obtain ⟨⟨si, ρ1⟩, e1, hm⟩ := R.of_bind hm
    dsimp only at hm
    split at hm
    · rename_i j _ ls hsi hls
      split at hm
      · rename_i iq hiq
        split at hm
        · rename_i l hl
          obtain ⟨⟨s1, ρ2⟩, e2, hm⟩ := R.of_bind hm
          obtain ⟨⟨c, ρ3⟩, e3, hm⟩ := R.of_bind hm
          dsimp only at hm
          split at hm
          · rename_i hlen
            cases hm
            obtain ⟨a, vs0, ea, hH0, _⟩ := ok.slot2 hl0
            refine ⟨_, ea, g2 n σ H w ρ _ _ _ ok e1 fun vi H1 w1 ok1 st1 sa1 => ?_⟩
            obtain ⟨oi, _, hi⟩ := sa1.cell ok1 hsi
            cases ow_int hi
            obtain ⟨a', vs, ea', hH1, hw1, o1, nd⟩ := ok1.slot2 hls
            rw [ea] at ea'
            cases ea'
            obtain ⟨b, us, hvb, hHb, hwb, fb⟩ := o1.at iq hl
            have hat : atI vs j = some (.ref b) := by
              unfold atI
              rw [← o1.sqs, hiq]
              exact hvb
            refine .inl ⟨a, vs, j, .ref b, rfl, rfl, .inl (.inl hH1), hat, ?_⟩
            refine ⟨.inl ⟨rfl, us, .inl (.inl hHb)⟩, ?_⟩
            have okl := ok1.lend (i := i) (n := n)
            have hw1' : w1.re (.sl i) (.tm n) a = .tm n := OM.re_eq hw1
            have hwb' : w1.re (.sl i) (.tm n) b = .tm n := OM.re_eq hwb
            have fl : Fixed (n + 1) (.tm n) := .inr (.inr ⟨n, by omega, rfl⟩)
            refine g (n + 1) σ H1 _ _ s1 _ _ okl e2 fun v H2 w2 ok2 st2 sa2 => ?_
            obtain ⟨w3, ok3, st3, ow3, _⟩ := esc_ok ok2 sa2 e3
            have st23 : Step (n + 1) H1 (w1.re (.sl i) (.tm n)) H2 w3 := st2.trans (st3 _)
            have st4 : Step (n + 1) H1 (w1.re (.sl i) (.tm n)) H2 (w3.re (.tm (n + 1)) .no) := st23.trans (Step.re not_fixed_tm)
            have ok4 : Ok X.K H2 (w3.re (.tm (n + 1)) .no) σ ρ3 := ok3.re (by intro z; cases z) (by intro i z; cases z)
            have fz4 : Fz X.K H2 (w3.re (.tm (n + 1)) .no) c.d v := ow3.freeze (by intro z; cases z)
            have o4 : Ow1L X.K H2 (w3.re (.tm (n + 1)) .no) (.tm n) ls vs := (o1.re (by intro z; cases z)).step (st4.kp fl)
            have ha4 := st4 a _ hH1 (by rw [hw1']; exact fl)
            have hb4 := st4 b _ hHb (by rw [hwb']; exact fl)
            generalize w3.re (.tm (n + 1)) .no = w4 at st4 ok4 fz4 o4 ha4 hb4
            have hwb4 : w4 b = .tm n := hb4.2.trans hwb'
            have hwa4 : w4 a = .tm n := ha4.2.trans hw1'
            have fb4 : FzL X.K H2 w4 l us := (fb.re (by intro z; cases z)).step (st4.kp fl)
            refine ⟨b, us, v, rfl, rfl, hb4.1, by rw [sizeLine_eq, ← fb.length]; exact hlen, ?_⟩
            have hab : a ≠ b := fun z => (List.nodup_cons.mp nd).1 (z ▸ List.mem_of_getElem? hvb)
            have kp : Kp .no H2 w4 (upd H2 b (.lst (us ++ [v]))) w4 := Kp.write (by rw [hwb4]; intro z; cases z) (by rw [hwb4]; intro z; cases z)
            have o5 : Ow1L X.K (upd H2 b (.lst (us ++ [v]))) w4 (.tm n) (ls.set iq (.lst (l ++ [c.d]))) vs := o4.write hwb4 (by intro z; cases z) (fb4.append (.cons fz4 .nil)) iq (List.nodup_cons.mp nd).2 hvb
            have ok5 : Ok X.K (upd H2 b (.lst (us ++ [v]))) w4 σ ρ3 := ok4.write hwb4
            refine k .non _ _ (ok5.giveBack (i := i) ea ((upd_ne hab).trans ha4.1) hwa4 o5 nd) ?_ (.fz .non)
            refine st1.trans ((Step.re (o' := .tm n) (not_fixed_sl (i := i))).trans (((st4.mono (Nat.le_succ n)).trans (Step.write ?_)).trans (Step.re not_fixed_tm)))
            rw [hwb4]; exact not_fixed_tm
          · cases hm
        · cases hm
      · cases hm
    · cases hm
  · cases hm
end
end Z

/-! Z: == and in, of things without truth values. -/
namespace Z
open PySem PySem.Spec PyProof.Rows L2
/-- ints, strings, None and tuples of such, at most n deep -/
def D.pl : Nat → D → Bool
  | _, .non => true
  | _, .int _ => true
  | _, .str x => D.okd.strOk x
  | n + 1, .tup l => l.all (D.pl n)
  | _, _ => false
theorem D.pl_okd : ∀ (n : Nat) (d : D), d.pl n = true → d.okd n = true
  | _, .non, _ => by simp [D.okd]
  | _, .int _, _ => by simp [D.okd]
  | _, .str x, h => by simpa [D.okd, D.pl] using h
  | 0, .tup l, h => by simp [D.pl] at h
  | n + 1, .tup l, h => by
    simp only [D.pl, D.okd, List.all_eq_true] at h ⊢
    exact fun d hd => D.pl_okd n d (h d hd)
  | _, .bl _, h => by simp [D.pl] at h
  | _, .lst _, h => by simp [D.pl] at h
  | _, .scr _, h => by simp [D.pl] at h
  | _, .dct _ _, h => by simp [D.pl] at h
theorem eqvAll_dec : ∀ {l m : List D}, (∀ x ∈ l, ∀ y ∈ m, x.eqv y = decide (x = y)) → PyData.eqvAll (D.pyL l) (D.pyL m) = decide (l = m)
  | [], [], _ => by simp [D.pyL, PyData.eqvAll]
  | [], _ :: _, _ => by simp [D.pyL, PyData.eqvAll]
  | _ :: _, [], _ => by simp [D.pyL, PyData.eqvAll]
  | x :: l, y :: m, h => by
    have h1 := h x (by simp) y (by simp)
    have h2 := eqvAll_dec (l := l) (m := m) fun a ha b hb => h a (by simp [ha]) b (by simp [hb])
    unfold D.eqv at h1
    simp only [D.pyL, PyData.eqvAll, h1, h2, List.cons.injEq, Bool.decide_and]
theorem eqv_pl : ∀ (n : Nat) (x y : D), x.pl n = true → y.pl n = true → x.eqv y = decide (x = y)
  | n, .tup l, .tup m, h, h' => by
    cases n with
    | zero => simp [D.pl] at h
    | succ n =>
      simp only [D.pl, List.all_eq_true] at h h'
      have := eqvAll_dec (l := l) (m := m) fun x hx y hy => eqv_pl n x y (h x hx) (h' y hy)
      show PyData.eqvAll (D.pyL l) (D.pyL m) = _
      rw [this]
      simp
  | _, .non, .non, _, _ => by show true = _; simp
  | _, .int a, .int b, _, _ => by show (a == b) = _; by_cases q : a = b <;> simp [q]
  | _, .str a, .str b, _, _ => by show (a == b) = _; by_cases q : a = b <;> simp [q]
  | _, .non, .int _, _, _ => by show false = _; simp
  | _, .non, .str _, _, _ => by show false = _; simp
  | _, .non, .tup _, _, _ => by show false = _; simp
  | _, .int _, .non, _, _ => by show false = _; simp
  | _, .int _, .str _, _, _ => by show false = _; simp
  | _, .int _, .tup _, _, _ => by show false = _; simp
  | _, .str _, .non, _, _ => by show false = _; simp
  | _, .str _, .int _, _, _ => by show false = _; simp
  | _, .str _, .tup _, _, _ => by show false = _; simp
  | _, .tup _, .non, _, _ => by show false = _; simp
  | _, .tup _, .int _, _, _ => by show false = _; simp
  | _, .tup _, .str _, _, _ => by show false = _; simp
  | _, .bl _, _, h, _ => by simp [D.pl] at h
  | _, .lst _, _, h, _ => by simp [D.pl] at h
  | _, .scr _, _, h, _ => by simp [D.pl] at h
  | _, .dct _ _, _, h, _ => by simp [D.pl] at h
  | _, _, .bl _, _, h => by simp [D.pl] at h
  | _, _, .lst _, _, h => by simp [D.pl] at h
  | _, _, .scr _, _, h => by simp [D.pl] at h
  | _, _, .dct _ _, _, h => by simp [D.pl] at h
theorem f_eqP {x y : D} {k k' : Nat} (h : x.pl 60 = true) (h' : y.pl 60 = true) : fEq [⟨x, k⟩, ⟨y, k'⟩] = .ok ⟨.bl (decide (x = y)), 0⟩ := by
  unfold fEq
  simp only [D.pl_okd _ _ h, D.pl_okd _ _ h', Bool.and_true, if_true, eqv_pl 60 x y h h']
  rfl
theorem f_neP {x y : D} {k k' : Nat} (h : x.pl 60 = true) (h' : y.pl 60 = true) : fNe [⟨x, k⟩, ⟨y, k'⟩] = .ok ⟨.bl (!decide (x = y)), 0⟩ := by
  unfold fNe
  simp only [D.pl_okd _ _ h, D.pl_okd _ _ h', Bool.and_true, if_true, eqv_pl 60 x y h h']
  rfl
theorem any_pl {x : D} {l : List D} (h : x.pl 60 = true) (h' : ∀ y ∈ l, y.pl 60 = true) : (l.any fun z => z.eqv x) = decide (x ∈ l) := by
  induction l with
  | nil => simp
  | cons a r ih =>
    rw [List.any_cons, ih fun y hy => h' y (by simp [hy]), eqv_pl 60 a x (h' a (by simp)) h]
    by_cases q : a = x
    · simp [q]
    · simp [q, Ne.symm q]
theorem pl_mono : ∀ (n : Nat) (d : D), d.pl n = true → d.pl (n + 1) = true
  | _, .non, _ => by simp [D.pl]
  | _, .int _, _ => by simp [D.pl]
  | _, .str _, h => by simpa [D.pl] using h
  | 0, .tup l, h => by simp [D.pl] at h
  | n + 1, .tup l, h => by
    rw [D.pl, List.all_eq_true] at h ⊢
    exact fun d hd => pl_mono n d (h d hd)
  | _, .bl _, h => by simp [D.pl] at h
  | _, .lst _, h => by simp [D.pl] at h
  | _, .scr _, h => by simp [D.pl] at h
  | _, .dct _ _, h => by simp [D.pl] at h
theorem f_inT {x : D} {l : List D} {k k' : Nat} {neg : Bool} (h : x.pl 59 = true) (h' : ∀ y ∈ l, y.pl 59 = true) : fIn neg [⟨x, k⟩, ⟨.tup l, k'⟩] = .ok ⟨.bl (neg ^^ decide (x ∈ l)), 0⟩ := by
  have h1 := pl_mono 59 x h
  have h2 : (D.tup l).pl 60 = true := by rw [D.pl, List.all_eq_true]; exact h'
  have e : inB x (.tup l) = .ok (decide (x ∈ l)) := by
    unfold inB
    simp only [D.pl_okd _ _ h1, D.pl_okd _ _ h2, Bool.and_true, if_true]
    rw [any_pl h1 fun y hy => pl_mono 59 y (h' y hy)]
  unfold fIn
  simp only [e, R.ok_bind]
  rfl
theorem f_inL {x : D} {l : List D} {k k' : Nat} {neg : Bool} (h : x.pl 59 = true) (h' : ∀ y ∈ l, y.pl 59 = true) : fIn neg [⟨x, k⟩, ⟨.lst l, k'⟩] = .ok ⟨.bl (neg ^^ decide (x ∈ l)), 0⟩ := by
  have h1 := pl_mono 59 x h
  have h2 : (D.lst l).okd 60 = true := by rw [D.okd, List.all_eq_true]; exact fun y hy => D.pl_okd _ _ (h' y hy)
  have e : inB x (.lst l) = .ok (decide (x ∈ l)) := by
    unfold inB
    simp only [D.pl_okd _ _ h1, h2, Bool.and_true, if_true]
    rw [any_pl h1 fun y hy => pl_mono 59 y (h' y hy)]
  unfold fIn
  simp only [e, R.ok_bind]
  rfl
/-! numbers of things -/
theorem nL_inj {a b : List Nat} : nL a = nL b ↔ a = b := by
  constructor
  · intro h
    induction a generalizing b with
    | nil => cases b with
      | nil => rfl
      | cons _ _ => simp [nL] at h
    | cons x r ih => cases b with
      | nil => simp [nL] at h
      | cons y s =>
        simp only [nL, List.map_cons, List.cons.injEq, D.int.injEq] at h
        rw [ih h.2, show x = y by omega]
  · intro h; rw [h]
theorem mem_nL {i : Nat} {l : List Nat} : D.int (i : Int) ∈ nL l ↔ i ∈ l := by
  unfold nL
  rw [List.mem_map]
  constructor
  · rintro ⟨j, h, e⟩
    simp only [D.int.injEq] at e
    rw [← show j = i by omega]; exact h
  · intro h; exact ⟨i, h, rfl⟩
theorem nD_inj {a b : List Nat} : nD a = nD b ↔ a = b := by
  unfold nD
  rw [D.tup.injEq, nL_inj]
theorem nL_pl {a : List Nat} {n : Nat} : ∀ y ∈ nL a, y.pl n = true := fun y hy => by
  obtain ⟨i, _, rfl⟩ := List.mem_map.mp hy
  simp [D.pl]
theorem nD_pl {a : List Nat} {n : Nat} : (nD a).pl (n + 1) = true := by
  unfold nD
  rw [D.pl, List.all_eq_true]
  exact nL_pl
theorem f_inN {i : Nat} {l : List Nat} {k k' : Nat} {neg : Bool} : fIn neg [⟨.int (i : Int), k⟩, ⟨nD l, k'⟩] = .ok ⟨.bl (neg ^^ decide (i ∈ l)), 0⟩ := by
  have := f_inT (x := .int (i : Int)) (l := nL l) (k := k) (k' := k') (neg := neg) (by simp [D.pl]) nL_pl
  simp only [mem_nL] at this
  exact this
theorem f_eqN {a b : List Nat} {k k' : Nat} : fEq [⟨nD a, k⟩, ⟨nD b, k'⟩] = .ok ⟨.bl (decide (a = b)), 0⟩ := by
  have := f_eqP (x := nD a) (y := nD b) (k := k) (k' := k') nD_pl nD_pl
  simp only [nD_inj] at this
  exact this
theorem f_neN {a b : List Nat} {k k' : Nat} : fNe [⟨nD a, k⟩, ⟨nD b, k'⟩] = .ok ⟨.bl (!decide (a = b)), 0⟩ := by
  have := f_neP (x := nD a) (y := nD b) (k := k) (k' := k') nD_pl nD_pl
  simp only [nD_inj] at this
  exact this
end Z

/-! Z: a name that is given a second name (`a = b`, b is read again): both are frozen. -/
namespace Z
open PySem PySem.Spec PyProof.Rows L2
def aFz (i : Nat) : AE := fun ρ => match ρ.get i with
  | some c => .ok (.v ⟨c.d, 0⟩, ρ.set i (some ⟨c.d, 0⟩))
  | none => .bad
@[simp] theorem aFz_s {i : Nat} {ρ : Env} : aFz i ρ = (match ρ.get i with | some c => .ok (.v ⟨c.d, 0⟩, ρ.set i (some ⟨c.d, 0⟩)) | none => .bad) := rfl
section
variable {X : Cx}
theorem sa_fz {i : Nat} {x : Str} {pos : Pos} (hN : X.N[i]? = some x := by rfl) (hv : Vis X.env.scope x := by first | exact Or.inl rfl | exact Or.inr (Or.inl rfl) | exact Or.inr (Or.inr rfl)) (hd : (x == ("__debug__" : Str)) = false := by decide) (hcd : (x == ("__classdict__" : Str)) = false := by decide) :
    SA X (.Name x pos) (aFz i) := by
  refine ⟨_, pe_var hN hv hd hcd, fun n σ H w ρ s ρ' Q ok hm k => ?_⟩
  unfold aFz at hm
  split at hm
  · rename_i c hc
    cases hm
    obtain ⟨v, e, ow⟩ := ok.slot i c hc
    exact ⟨v, e, k v H _ (ok.freeze hc) (Step.re not_fixed_sl) (.fz (ow.freeze (by intro z; cases z)))⟩
  · cases hm
end
end Z

namespace S
open Z PySem PySem.Spec PyProof.Rows
def m_count_of : MS := (mSeq (mRet (mPrim fLen [(mPrim fIx [(aVar 0), (aC (.int 2))])])) mNext)
def c_count_of : FD := runDef 1 m_count_of
def m_kinds_of : MS := (mSeq (mRet (mPrim fIx [(mPrim fIx [(mPrim fIx [(aVar 0), (aC (.int 2))]), (aVar 1)]), (aC (.int 1))])) mNext)
def c_kinds_of : FD := runDef 2 m_kinds_of
def m_watches_of : MS := (mSeq (mRet (mPrim fIx [(mPrim fIx [(mPrim fIx [(aVar 0), (aC (.int 2))]), (aVar 1)]), (aC (.int 2))])) mNext)
def c_watches_of : FD := runDef 2 m_watches_of
def e_combined_1 : AE := (mPrim fAdd [(aVar 3), (mTup [(aVar 4)])])
def b_combined_2 : MS := (mSeq (mSet 1 (mComp2 (mItems (aVar 1)) (gN 3) mYes (mItems (aVar 2)) (gN 4) mYes e_combined_1 [3, 4] [4])) mNext)
def m_combined : MS := (mSeq (mSet 1 (mLst [(mTup [])])) (mSeq (mFor (mItems (aVar 0)) (gN 2) b_combined_2) (mSeq (mRet (mPrim fTuple [(aVar 1)])) mNext)))
def c_combined : FD := runDef 5 m_combined
def m_rows_of : MS := (mSeq (mRet (mCall c_combined [(aVar 0)])) mNext)
def c_rows_of : FD := runDef 1 m_rows_of
def m_narrowed : MS := (mSeq (mRet (mPrim fAdd [(mPrim fAdd [(mSl (aVar 0) none (some (aVar 1))), (mTup [(mPrim fTuple [(aVar 2)])])]), (mSl (aVar 0) (some (mPrim fAdd [(aVar 1), (aC (.int 1))])) none)])) mNext)
def c_narrowed : FD := runDef 3 m_narrowed
def b_row_number_1 : MS := (mSeq (mSet 2 (mPrim fAdd [(mPrim fMul [(aVar 2), (mPrim fLen [(mCall c_kinds_of [(aVar 0), (aVar 3)])])]), (mPrim fIx [(aVar 1), (aVar 3)])])) mNext)
def m_row_number : MS := (mSeq (mSet 2 (aC (.int 0))) (mSeq (mFor (mRange1 (mCall c_count_of [(aVar 0)])) (gN 3) b_row_number_1) (mSeq (mRet (aVar 2)) mNext)))
def c_row_number : FD := runDef 4 m_row_number
def m_end_of : MS := (mSeq (mRet (mPrim fIx [(mPrim fIx [(aVar 0), (aC (.int 3))]), (mCall c_row_number [(aVar 0), (aVar 1)])])) mNext)
def c_end_of : FD := runDef 2 m_end_of
def m_worths_of : MS := (mSeq (mRet (mPrim fIx [(mPrim fIx [(mCall c_kinds_of [(aVar 0), (aVar 1)]), (aVar 2)]), (aC (.int 1))])) mNext)
def c_worths_of : FD := runDef 3 m_worths_of
def m_row_worths : MS := (mSeq (mRet (mPrim fIx [(mCall c_worths_of [(aVar 0), (aVar 1), (aVar 2)]), (aVar 3)])) mNext)
def c_row_worths : FD := runDef 4 m_row_worths
def m_payment_of : MS := (mSeq (mRet (mPrim fIx [(mPrim fIx [(aVar 1), (aC (.int 1))]), (aVar 0)])) mNext)
def c_payment_of : FD := runDef 2 m_payment_of
def m_value_by : MS := (mSeq (mRet (mPrim fSub [(mPrim fIx [(aVar 0), (mPrim fIx [(aVar 2), (aC (.int 0))])]), (mCall c_payment_of [(aVar 1), (aVar 2)])])) mNext)
def c_value_by : FD := runDef 3 m_value_by
def m_value_of : MS := (mSeq (mRet (mCall c_value_by [(mCall c_row_worths [(aVar 0), (aVar 1), (aVar 2), (aVar 3)]), (aVar 1), (aVar 4)])) mNext)
def c_value_of : FD := runDef 5 m_value_of
def b_case_box_1 : MS := (mSeq (mSet 5 (mCall c_narrowed [(aVar 5), (mPrim fIx [(aVar 4), (aVar 6)]), (mTup [(mPrim fIx [(aVar 3), (aVar 6)])])])) mNext)
def m_case_box : MS := (mSeq (mSet 4 (mCall c_watches_of [(aVar 0), (aVar 2)])) (mSeq (mSet 5 (aVar 1)) (mSeq (mFor (mRange1 (mPrim fLen [(aVar 4)])) (gN 6) b_case_box_1) (mSeq (mRet (aVar 5)) mNext))))
def c_case_box : FD := runDef 7 m_case_box
def m_rows_saying : MS := (mSeq (mRet (mCall c_rows_of [(mCall c_narrowed [(mCall c_case_box [(aVar 0), (aVar 1), (aVar 2), (aVar 3)]), (aVar 2), (mTup [(aVar 4)])])])) mNext)
def c_rows_saying : FD := runDef 5 m_rows_saying
def e_valued_rows_1 : AE := (mTup [(mCall c_value_of [(aVar 0), (aVar 2), (aVar 3), (aVar 4), (mCall c_end_of [(aVar 0), (aVar 5)])]), (aVar 5)])
def m_valued_rows : MS := (mSeq (mRet (mComp (mItems (aVar 1)) (gN 5) mYes e_valued_rows_1 [5])) mNext)
def c_valued_rows : FD := runDef 6 m_valued_rows
def b_first_least_1 : MS := (mSeq (mIf (mTest (mPrim fLt [(mPrim fIx [(aVar 2), (aC (.int 0))]), (mPrim fIx [(aVar 1), (aC (.int 0))])])) (mSeq (mSet 1 (aVar 2)) mNext) mNext) mNext)
def m_first_least : MS := (mSeq (mSet 1 (mPrim fIx [(aVar 0), (aC (.int 0))])) (mSeq (mFor (mItems (aVar 0)) (gN 2) b_first_least_1) (mSeq (mRet (aVar 1)) mNext)))
def c_first_least : FD := runDef 3 m_first_least
def b_first_greatest_1 : MS := (mSeq (mIf (mTest (mPrim fGt [(mPrim fIx [(aVar 2), (aC (.int 0))]), (mPrim fIx [(aVar 1), (aC (.int 0))])])) (mSeq (mSet 1 (aVar 2)) mNext) mNext) mNext)
def m_first_greatest : MS := (mSeq (mSet 1 (mPrim fIx [(aVar 0), (aC (.int 0))])) (mSeq (mFor (mItems (aVar 0)) (gN 2) b_first_greatest_1) (mSeq (mRet (aVar 1)) mNext)))
def c_first_greatest : FD := runDef 3 m_first_greatest
def m_worst_truth : MS := (mSeq (mSet 6 (mCall c_rows_saying [(aVar 0), (aVar 1), (aVar 2), (aVar 5), (aVar 3)])) (mSeq (mRet (mCall c_first_least [(mCall c_valued_rows [(aVar 0), (aVar 6), (aVar 2), (aVar 3), (aVar 4)])])) mNext))
def c_worst_truth : FD := runDef 7 m_worst_truth
def m_best_lie : MS := (mSeq (mSet 7 (mCall c_rows_saying [(aVar 0), (aVar 1), (aVar 2), (aVar 6), (aVar 4)])) (mSeq (mRet (mCall c_first_greatest [(mCall c_valued_rows [(aVar 0), (aVar 7), (aVar 2), (aVar 3), (aVar 5)])])) mNext))
def c_best_lie : FD := runDef 8 m_best_lie
def e__law_begin_1 : AE := (mPrim fInt [(aVar 1)])
def m__law_begin : MS := (mSeq (mRet (mLst [(mComp (mItems (aVar 0)) (gN 1) mYes e__law_begin_1 [1]), (aC (.int 0)), (aC (.int 0)), (aC (.int 7))])) mNext)
def c__law_begin : FD := runDef 2 m__law_begin
def m__law_draw : MS := (mSeq (mIf (mTest (mPrim fGt [(mPrim fIx [(aVar 0), (aC (.int 2))]), (aC (.int 0))])) (mSeq (mSet 2 (mPrim fIx [(aVar 0), (aC (.int 2))])) (mSeq (mSetIx 0 (aC (.int 2)) (mPrim fDiv [(aVar 2), (aVar 1)])) (mSeq (mRet (mPrim fMod [(mPrim fInt [(aVar 2)]), (aVar 1)])) mNext))) mNext) (mSeq (mSet 3 (aC (.int 0))) (mSeq (mIf (mTest (mPrim fLt [(mPrim fIx [(aVar 0), (aC (.int 1))]), (mPrim fLen [(mPrim fIx [(aVar 0), (aC (.int 0))])])])) (mSeq (mSet 4 (mPrim fIx [(mPrim fIx [(aVar 0), (aC (.int 0))]), (mPrim fIx [(aVar 0), (aC (.int 1))])])) (mSeq (mSet 3 (mPrim fAdd [(mPrim fMul [(aC (.int 2)), (mPrim fAbs [(aVar 4)])]), (mPrim fInt [(mPrim fLt [(aVar 4), (aC (.int 0))])])])) mNext)) mNext) (mSeq (mAugIx 0 (aC (.int 1)) fIAdd (aC (.int 1))) (mSeq (mIf (mTest (mPrim fGe [(aVar 3), (mPrim fMul [(aC (.int 2)), (mPrim fPow [(aC (.int 10)), (aC (.int 18))])])])) (mSeq (mSet 2 (mPrim fMod [(mPrim fInt [(mPrim fDiv [(aVar 3), (aC (.int 2))])]), (mPrim fShl [(aC (.int 1)), (aC (.int 6000))])])) (mSeq (mSetIx 0 (aC (.int 2)) (mPrim fDiv [(aVar 2), (aVar 1)])) (mSeq (mRet (mPrim fMod [(mPrim fInt [(aVar 2)]), (aVar 1)])) mNext))) mNext) (mSeq (mSetIx 0 (aC (.int 3)) (mPrim fMod [(mPrim fInt [(mPrim fAdd [(mPrim fAdd [(mPrim fAdd [(mPrim fMul [(mPrim fIx [(aVar 0), (aC (.int 3))]), (aC (.int 48271))]), (mPrim fMul [(mPrim fMod [(mPrim fInt [(aVar 3)]), (aC (.int 2147483629))]), (aC (.int 16807))])]), (mPrim fMul [(mPrim fIx [(aVar 0), (aC (.int 1))]), (aC (.int 69621))])]), (aC (.int 11))])]), (aC (.int 2147483647))])) (mSeq (mRet (mPrim fMod [(mPrim fInt [(mPrim fDiv [(mPrim fIx [(aVar 0), (aC (.int 3))]), (aC (.int 16))])]), (aVar 1)])) mNext)))))))
def c__law_draw : FD := runDef 5 m__law_draw
def m__law_pick : MS := (mSeq (mRet (mPrim fIx [(aVar 1), (mCall c__law_draw [(aVar 0), (mPrim fLen [(aVar 1)])])])) mNext)
def c__law_pick : FD := runDef 2 m__law_pick
def m__law_pop : MS := (mSeq (mRet (mMeth 1 fPop1 [(mCall c__law_draw [(aVar 0), (mPrim fLen [(aVar 1)])])])) mNext)
def c__law_pop : FD := runDef 2 m__law_pop
def b__law_shuffled_1 : MS := (mSeq (mExpr (mMeth 3 fAppend [(mMeth 2 fPop1 [(mCall c__law_draw [(aVar 0), (mPrim fLen [(aVar 2)])])])])) mNext)
def m__law_shuffled : MS := (mSeq (mSet 2 (mPrim fList [(aVar 1)])) (mSeq (mSet 3 (mLst [])) (mSeq (mFor (mRange1 (mPrim fLen [(aVar 2)])) (gN 4) b__law_shuffled_1) (mSeq (mRet (aVar 3)) mNext))))
def c__law_shuffled : FD := runDef 5 m__law_shuffled
def m__law_pool : MS := (mSeq (mSet 0 (aC (.str "a b2 give low z9z slack n m8 aa kind worth p t4 even2 ab1 head u v2 w lowest high mid claim person "))) (mSeq (mSet 0 (mPrim fAdd [(aVar 0), (aC (.str "s t e f g h i j k x y q7 deep turn watch l5 hold outcome o c0 d two zz1 near far9 last any2 "))])) (mSeq (mRet (mRecv isStrD fSplit (mPrim fAdd [(aVar 0), (aC (.str "abcdefghijkl b c1 top2 a99999999999 row col7 v k0 k1 p0 yes no o1"))]) [(aC (.str " "))])) mNext)))
def c__law_pool : FD := runDef 1 m__law_pool
def m__law_number : MS := (mSeq (mIf (mTest (mPrim fEq [(mCall c__law_draw [(aVar 0), (aC (.int 40))]), (aC (.int 17))])) (mSeq (mRet (mPrim fMul [(mPrim fSub [(mCall c__law_draw [(aVar 0), (aC (.int 2000001))]), (aC (.int 1000000))]), (aC (.int 1000000))])) mNext) mNext) (mSeq (mRet (mPrim fSub [(mCall c__law_draw [(aVar 0), (aC (.int 7))]), (aC (.int 3))])) mNext))
def c__law_number : FD := runDef 1 m__law_number
def b__law_sizes_1 : MS := (mSeq (mSet 5 (mPrim fMul [(aVar 5), (aVar 6)])) mNext)
def b__law_sizes_2 : MS := (mSeq (mSet 5 (aC (.int 1))) (mSeq (mFor (mItems (aVar 4)) (gN 6) b__law_sizes_1) (mSeq (mIf (mTest (mPrim fLe [(aVar 5), (aVar 1)])) (mSeq (mExpr (mMeth 3 fAppend [(aVar 4)])) mNext) mNext) mNext)))
def m__law_sizes : MS := (mSeq (mSet 2 (mLst [(mTup [(aC (.int 2)), (aC (.int 2))]), (mTup [(aC (.int 3)), (aC (.int 2))]), (mTup [(aC (.int 2)), (aC (.int 2)), (aC (.int 2))]), (mTup [(aC (.int 2)), (aC (.int 3))]), (mTup [(aC (.int 3)), (aC (.int 3))]), (mTup [(aC (.int 1)), (aC (.int 3))]), (mTup [(aC (.int 2)), (aC (.int 1)), (aC (.int 2))]), (mTup [(aC (.int 4)), (aC (.int 2))]), (mTup [(aC (.int 3))]), (mTup [(aC (.int 2)), (aC (.int 3)), (aC (.int 2))]), (mTup [(aC (.int 1))]), (mTup [(aC (.int 2)), (aC (.int 5))])])) (mSeq (mSet 2 (mPrim fAdd [(aVar 2), (mLst [(mTup [(aC (.int 3)), (aC (.int 4))]), (mTup [(aC (.int 2)), (aC (.int 2)), (aC (.int 3))]), (mTup [(aC (.int 1)), (aC (.int 1))]), (mTup [(aC (.int 2)), (aC (.int 2)), (aC (.int 2)), (aC (.int 2))]), (mTup [(aC (.int 6)), (aC (.int 2))]), (mTup [(aC (.int 3)), (aC (.int 2)), (aC (.int 3))]), (mTup [(aC (.int 4)), (aC (.int 4))]), (mTup [(aC (.int 8)), (aC (.int 2))]), (mTup [(aC (.int 1)), (aC (.int 2)), (aC (.int 1)), (aC (.int 3))])])])) (mSeq (mSet 2 (mPrim fAdd [(aVar 2), (mLst [(mTup [(aC (.int 3)), (aC (.int 3)), (aC (.int 2))]), (mTup [(aC (.int 3)), (aC (.int 3)), (aC (.int 3))]), (mTup [(aC (.int 2)), (aC (.int 8))]), (mTup [(aC (.int 4)), (aC (.int 2)), (aC (.int 3))]), (mTup [(aC (.int 5)), (aC (.int 5))]), (mTup [(aC (.int 2)), (aC (.int 2)), (aC (.int 2)), (aC (.int 4))]), (mTup [(aC (.int 8)), (aC (.int 3))]), (mTup [(aC (.int 4)), (aC (.int 3)), (aC (.int 3))]), (mTup [(aC (.int 8)), (aC (.int 8))]), (mTup [(aC (.int 4)), (aC (.int 4)), (aC (.int 4))])])])) (mSeq (mSet 3 (mLst [])) (mSeq (mFor (mItems (aVar 2)) (gN 4) b__law_sizes_2) (mSeq (mRet (mCall c__law_pick [(aVar 0), (aVar 3)])) mNext))))))
def c__law_sizes : FD := runDef 7 m__law_sizes
def e__law_rows_1 : AE := (mPrim fAdd [(aVar 4), (mTup [(aVar 5)])])
def b__law_rows_2 : MS := (mSeq (mExpr (mMeth 3 fExtend [(mComp (mItems (aVar 2)) (gN 5) mYes e__law_rows_1 [5])])) mNext)
def b__law_rows_3 : MS := (mSeq (mSet 3 (mLst [])) (mSeq (mFor (mItems (aVar 1)) (gN 4) b__law_rows_2) (mSeq (mSet 1 (aVar 3)) mNext)))
def m__law_rows : MS := (mSeq (mSet 1 (mLst [(mTup [])])) (mSeq (mFor (mItems (aVar 0)) (gN 2) b__law_rows_3) (mSeq (mRet (aVar 1)) mNext)))
def c__law_rows : FD := runDef 6 m__law_rows
def t__law_watching_1 : MT := (mAndT (mTest (mPrim fNe [(aVar 3), (aVar 1)])) (mTest (mPrim fEq [(mCall c__law_draw [(aVar 0), (aC (.int 2))]), (aC (.int 1))])))
def e__law_watching_2 : AE := (aVar 3)
def m__law_watching : MS := (mSeq (mIf (mTest (mPrim fNe [(mCall c__law_draw [(aVar 0), (aC (.int 3))]), (aC (.int 1))])) (mSeq (mRet (mTup [])) mNext) mNext) (mSeq (mRet (mPrim fTuple [(mComp (mRange1 (aVar 2)) (gN 3) t__law_watching_1 e__law_watching_2 [3])])) mNext))
def c__law_watching : FD := runDef 4 m__law_watching
def e__law_house_1 : AE := (mCall c__law_pop [(aVar 0), (aVar 5)])
def e__law_house_2 : AE := (mCall c__law_number [(aVar 0)])
def b__law_house_3 : MS := (mSeq (mExpr (mMeth 12 fAppend [(mPrim fTuple [(mComp (mRange1 (aVar 2)) (gN 14) mYes e__law_house_2 [14])])])) mNext)
def b__law_house_4 : MS := (mSeq (mSet 12 (mLst [])) (mSeq (mFor (mRange1 (mPrim fAdd [(aC (.int 1)), (mCall c__law_draw [(aVar 0), (aVar 3)])])) (gN 13) b__law_house_3) (mSeq (mExpr (mMeth 11 fAppend [(mTup [(mCall c__law_pop [(aVar 0), (aVar 10)]), (mPrim fTuple [(aVar 12)])])])) mNext)))
def b__law_house_5 : MS := (mSeq (mSet 10 (mCall c__law_pool [])) (mSeq (mSet 11 (mLst [])) (mSeq (mFor (mRange1 (mPrim fIx [(aVar 1), (aVar 9)])) (gN 7) b__law_house_4) (mSeq (mExpr (mMeth 8 fAppend [(mTup [(mCall c__law_pop [(aVar 0), (aVar 5)]), (mPrim fTuple [(aVar 11)]), (mCall c__law_watching [(aVar 0), (aVar 9), (mPrim fLen [(aVar 1)])])])])) mNext))))
def e__law_house_6 : AE := (mListRg (mRg1 (aVar 18)))
def e__law_house_7 : AE := (mPrim fSub [(mCall c__law_draw [(aVar 0), (mPrim fAdd [(mPrim fMul [(aC (.int 2)), (aVar 4)]), (aC (.int 1))])]), (aVar 4)])
def b__law_house_8 : MS := (mSeq (mIf (mOrT (mTest (mPrim fIsN [(aVar 16), (aC .non)])) (mTest (mPrim fNe [(mCall c__law_draw [(aVar 0), (aC (.int 3))]), (aC (.int 1))]))) (mSeq (mSet 16 (mTup [(mCall c__law_draw [(aVar 0), (aVar 2)]), (mPrim fTuple [(mComp (mItems (aVar 1)) (gN 7) mYes e__law_house_7 [7])])])) mNext) mNext) (mSeq (mExpr (mMeth 15 fAppend [(aVar 16)])) mNext))
def m__law_house : MS := (mSeq (mSet 5 (mCall c__law_pool [])) (mSeq (mSet 6 (mPrim fTuple [(mComp (mRange1 (aVar 2)) (gN 7) mYes e__law_house_1 [7])])) (mSeq (mSet 8 (mLst [])) (mSeq (mFor (mRange1 (mPrim fLen [(aVar 1)])) (gN 9) b__law_house_5) (mSeq (mSet 15 (mLst [])) (mSeq (mSet 16 (aC .non)) (mSeq (mFor (mItems (mCall c__law_rows [(mComp (mItems (aVar 1)) (gN 18) mYes e__law_house_6 [18])])) (gN 17) b__law_house_8) (mSeq (mSet 19 (aC (.int 0))) (mSeq (mIf (mTest (mPrim fEq [(mCall c__law_draw [(aVar 0), (aC (.int 4))]), (aC (.int 1))])) (mSeq (mSet 19 (mPrim fAdd [(aC (.int 1)), (mCall c__law_draw [(aVar 0), (aC (.int 4))])])) mNext) mNext) (mSeq (mRet (mTup [(aC (.str "house")), (aVar 6), (mPrim fTuple [(aVar 8)]), (mPrim fTuple [(aVar 15)]), (aVar 19)])) mNext))))))))))
def c__law_house : FD := runDef 20 m__law_house
def b__law_parts_1 : MS := (mSeq (mSet 4 (mCall c__law_draw [(aVar 0), (mPrim fAdd [(mPrim fLen [(aVar 2)]), (aC (.int 1))])])) (mSeq (mIf (mTest (mPrim fEq [(aVar 4), (mPrim fLen [(aVar 2)])])) (mSeq (mExpr (mApp2 2 (mLst [(aVar 3)]))) mNext) (mSeq (mExpr (mAppIx 2 (aVar 4) (aVar 3))) mNext)) mNext))
def e__law_parts_2 : AE := (mPrim fTuple [(aVar 5)])
def m__law_parts : MS := (mSeq (mSet 2 (mLst2 [(mLst [(mPrim fIx [(aVar 1), (aC (.int 0))])])])) (mSeq (mFor (mItems (mSl (aVar 1) (some (aC (.int 1))) none)) (gN 3) b__law_parts_1) (mSeq (mIf (mTest (mPrim fEq [(mPrim fLen [(aVar 2)]), (aC (.int 1))])) (mSeq (mSet 2 (mLst2 [(mLst [(mPrim fIx [(aVar 1), (aC (.int 0))])]), (mPrim fList [(mSl (aVar 1) (some (aC (.int 1))) none)])])) mNext) mNext) (mSeq (mRet (mPrim fTuple [(mComp (mItems (aVar 2)) (gN 5) mYes e__law_parts_2 [5])])) mNext))))
def c__law_parts : FD := runDef 6 m__law_parts
def m__law_narrowed : MS := (mSeq (mRet (mPrim fAdd [(mPrim fAdd [(mPrim fTuple [(mSl (aVar 0) none (some (aVar 1)))]), (mTup [(mPrim fTuple [(aVar 2)])])]), (mPrim fTuple [(mSl (aVar 0) (some (mPrim fAdd [(aVar 1), (aC (.int 1))])) none)])])) mNext)
def c__law_narrowed : FD := runDef 3 m__law_narrowed
def t__law_hearing_1 (c__law_hearing : FD) : MT := (mTest (mPrim fGt [(mPrim fLen [(mPrim fIx [(aVar 1), (aVar 4)])]), (aC (.int 1))]))
def e__law_hearing_2 (c__law_hearing : FD) : AE := (aVar 4)
def t__law_hearing_3 (c__law_hearing : FD) : MT := (mTest (mPrim (fIn true) [(aVar 6), (mPrim fIx [(aVar 5), (aC (.int 0))])]))
def e__law_hearing_4 (c__law_hearing : FD) : AE := (aVar 6)
def b__law_hearing_5 (c__law_hearing : FD) : MS := (mSeq (mExpr (mMeth 7 fAppend [(mTup [(aVar 8), (mCall c__law_hearing [(aVar 0), (mCall c__law_narrowed [(aVar 1), (aVar 4), (aVar 8)]), (mPrim fDiv [(aVar 2), (mPrim fLen [(aVar 5)])])])])])) mNext)
def m__law_hearing (c__law_hearing : FD) : MS := (mSeq (mSet 3 (mComp (mRange1 (mPrim fLen [(aVar 1)])) (gN 4) (t__law_hearing_1 c__law_hearing) (e__law_hearing_2 c__law_hearing) [4])) (mSeq (mIf (mOrT (mNotT (mTest (aVar 3))) (mOrT (mTest (mPrim fLt [(aVar 2), (aC (.int 2))])) (mTest (mPrim fEq [(mCall c__law_draw [(aVar 0), (aC (.int 8))]), (aC (.int 3))])))) (mSeq (mRet (mTup [(aC (.str "end"))])) mNext) mNext) (mSeq (mSet 4 (mCall c__law_pick [(aVar 0), (aVar 3)])) (mSeq (mSet 5 (mCall c__law_parts [(aVar 0), (mPrim fIx [(aVar 1), (aVar 4)])])) (mSeq (mIf (mTest (mPrim fGt [(mPrim fLen [(aVar 5)]), (aVar 2)])) (mSeq (mSet 5 (mTup [(mPrim fIx [(aVar 5), (aC (.int 0))]), (mPrim fTuple [(mComp (mItems (mPrim fIx [(aVar 1), (aVar 4)])) (gN 6) (t__law_hearing_3 c__law_hearing) (e__law_hearing_4 c__law_hearing) [6])])])) mNext) mNext) (mSeq (mSet 7 (mLst [])) (mSeq (mFor (mItems (aVar 5)) (gN 8) (b__law_hearing_5 c__law_hearing)) (mSeq (mRet (mTup [(aC (.str "ask")), (aVar 4), (mPrim fTuple [(aVar 7)])])) mNext))))))))
def c__law_hearing : Nat → FD
  | 0 => fun _ => .bad
  | n + 1 => runDef 9 (m__law_hearing (c__law_hearing n))
def b__law_nodes_1 : MS := (mSeq (mAsg (gT 2 (gsCons (gN 8) (gsCons (gN 9) gsNil))) (mPrim fIx [(mPrim fIx [(aVar 6), (aC (.int 2))]), (aVar 7)])) (mSeq (mExpr (mMeth 3 fAppend [(mTup [(mPrim fAdd [(aVar 4), (mTup [(aVar 7)])]), (mCall c__law_narrowed [(aVar 5), (mPrim fIx [(aVar 6), (aC (.int 1))]), (aVar 8)]), (aVar 9)])])) mNext))
def t__law_nodes_2 : MT := (mTest (aVar 3))
def b__law_nodes_3 : MS := (mSeq (mAsg (gT 3 (gsCons (gN 4) (gsCons (gN 5) (gsCons (gN 6) gsNil)))) (mMeth 3 fPop0 [])) (mSeq (mExpr (mMeth 2 fAppend [(mTup [(aVar 4), (aVar 5), (aVar 6)])])) (mSeq (mIf (mTest (mPrim fEq [(mPrim fIx [(aVar 6), (aC (.int 0))]), (aC (.str "ask"))])) (mSeq (mFor (mRange3 [(mPrim fSub [(mPrim fLen [(mPrim fIx [(aVar 6), (aC (.int 2))])]), (aC (.int 1))]), (mPrim fNeg [(aC (.int 1))]), (mPrim fNeg [(aC (.int 1))])]) (gN 7) b__law_nodes_1) mNext) mNext) mNext)))
def m__law_nodes : MS := (mSeq (mSet 2 (mLst [])) (mSeq (mSet 3 (mLst [(mTup [(mTup []), (mPrim fTuple [(aVar 0)]), (aVar 1)])])) (mSeq (mWhile 100000 t__law_nodes_2 b__law_nodes_3) (mSeq (mRet (aVar 2)) mNext))))
def c__law_nodes : FD := runDef 10 m__law_nodes
def t__law_leaves_1 : MT := (mTest (mPrim fEq [(mPrim fIx [(aVar 4), (aC (.int 0))]), (aC (.str "end"))]))
def e__law_leaves_2 : AE := (mTup [(aVar 2), (aVar 3)])
def m__law_leaves : MS := (mSeq (mRet (mComp (mItems (mCall c__law_nodes [(aVar 0), (aVar 1)])) (gT 3 (gsCons (gN 2) (gsCons (gN 3) (gsCons (gN 4) gsNil)))) t__law_leaves_1 e__law_leaves_2 [2, 3, 4])) mNext)
def c__law_leaves : FD := runDef 5 m__law_leaves
def t__law_run_1 : MT := (mTest (mPrim (fIn false) [(aVar 5), (mPrim fIx [(mPrim fIx [(mPrim fIx [(aVar 4), (aC (.int 2))]), (aVar 7)]), (aC (.int 0))])]))
def e__law_run_2 : AE := (aVar 7)
def t__law_run_3 : MT := (mTest (mPrim fEq [(mPrim fIx [(aVar 4), (aC (.int 0))]), (aC (.str "ask"))]))
def b__law_run_4 : MS := (mSeq (mSet 5 (mPrim fIx [(aVar 1), (mPrim fIx [(aVar 4), (aC (.int 1))])])) (mSeq (mSet 6 (mPrim fIx [(mComp (mRange1 (mPrim fLen [(mPrim fIx [(aVar 4), (aC (.int 2))])])) (gN 7) t__law_run_1 e__law_run_2 [7]), (aC (.int 0))])) (mSeq (mExpr (mMeth 3 fAppend [(mTup [(mPrim fIx [(aVar 4), (aC (.int 1))]), (mPrim fIx [(mPrim fIx [(mPrim fIx [(aVar 4), (aC (.int 2))]), (aVar 6)]), (aC (.int 0))])])])) (mSeq (mSet 2 (mPrim fAdd [(aVar 2), (mTup [(aVar 6)])])) (mSeq (mSet 4 (mPrim fIx [(mPrim fIx [(mPrim fIx [(aVar 4), (aC (.int 2))]), (aVar 6)]), (aC (.int 1))])) mNext)))))
def m__law_run : MS := (mSeq (mSet 2 (mTup [])) (mSeq (mSet 3 (mLst [])) (mSeq (mSet 4 (aVar 0)) (mSeq (mWhile 100000 t__law_run_3 b__law_run_4) (mSeq (mRet (mTup [(mPrim fTuple [(aVar 3)]), (aVar 2)])) mNext)))))
def c__law_run : FD := runDef 8 m__law_run
def e__law_whole_1 : AE := (mTupRg (mRg1 (mPrim fLen [(mPrim fIx [(aVar 1), (aC (.int 1))])])))
def m__law_whole : MS := (mSeq (mRet (mPrim fTuple [(mComp (mItems (mPrim fIx [(aVar 0), (aC (.int 2))])) (gN 1) mYes e__law_whole_1 [1])])) mNext)
def c__law_whole : FD := runDef 2 m__law_whole
def b__law_end_1 : MS := (mSeq (mSet 2 (mPrim fAdd [(mPrim fMul [(aVar 2), (mPrim fLen [(mPrim fIx [(mPrim fIx [(mPrim fIx [(aVar 0), (aC (.int 2))]), (aVar 3)]), (aC (.int 1))])])]), (mPrim fIx [(aVar 1), (aVar 3)])])) mNext)
def m__law_end : MS := (mSeq (mSet 2 (aC (.int 0))) (mSeq (mFor (mRange1 (mPrim fLen [(aVar 1)])) (gN 3) b__law_end_1) (mSeq (mRet (mPrim fIx [(mPrim fIx [(aVar 0), (aC (.int 3))]), (aVar 2)])) mNext)))
def c__law_end : FD := runDef 4 m__law_end
def m__law_value : MS := (mSeq (mRet (mPrim fSub [(mPrim fIx [(mPrim fIx [(mPrim fIx [(mPrim fIx [(mPrim fIx [(mPrim fIx [(mPrim fIx [(aVar 0), (aC (.int 2))]), (aVar 1)]), (aC (.int 1))]), (aVar 2)]), (aC (.int 1))]), (aVar 3)]), (mPrim fIx [(aVar 4), (aC (.int 0))])]), (mPrim fIx [(mPrim fIx [(aVar 4), (aC (.int 1))]), (aVar 1)])])) mNext)
def c__law_value : FD := runDef 5 m__law_value
def e__law_case_1 : AE := (mPrim fIx [(aVar 2), (aVar 3)])
def m__law_case : MS := (mSeq (mRet (mPrim fTuple [(mComp (mItems (mPrim fIx [(mPrim fIx [(mPrim fIx [(aVar 0), (aC (.int 2))]), (aVar 1)]), (aC (.int 2))])) (gN 3) mYes e__law_case_1 [3])])) mNext)
def c__law_case : FD := runDef 4 m__law_case
def b__law_parting_person_1 : MS := (mSeq (mIf (mTest (mPrim fNe [(mPrim fIx [(aVar 1), (aVar 4)]), (mPrim fIx [(aVar 2), (aVar 4)])])) (mSeq (mRet (mPrim fIx [(aVar 3), (aC (.int 1))])) mNext) mNext) (mSeq (mSet 3 (mPrim fIx [(mPrim fIx [(mPrim fIx [(aVar 3), (aC (.int 2))]), (mPrim fIx [(aVar 1), (aVar 4)])]), (aC (.int 1))])) mNext))
def m__law_parting_person : MS := (mSeq (mSet 3 (aVar 0)) (mSeq (mFor (mRange1 (mPrim fMin [(mPrim fLen [(aVar 1)]), (mPrim fLen [(aVar 2)])])) (gN 4) b__law_parting_person_1) (mSeq (mRet (mPrim fNeg [(aC (.int 1))])) mNext)))
def c__law_parting_person : FD := runDef 5 m__law_parting_person
def e__law_heard_values_1 : AE := (aC (.int 0))
def b__law_heard_values_2 : MS := (mSeq (mIf (mTest (mPrim (fIn false) [(aVar 4), (mPrim fIx [(mPrim fIx [(mPrim fIx [(aVar 2), (aVar 9)]), (aC (.int 1))]), (aVar 3)])])) (mSeq (mSetIx 7 (aVar 9) (mPrim fSub [(mCall c__law_draw [(aVar 0), (aC (.int 6))]), (aC (.int 1))])) mNext) mNext) mNext)
def t__law_heard_values_3 : MT := (mTest (mPrim (fIn false) [(aVar 18), (mPrim fIx [(aVar 15), (aVar 17)])]))
def e__law_heard_values_4 : AE := (aVar 18)
def t__law_heard_values_5 : MT := (mNotT (mTest (mComp (mItems (mPrim fIx [(aVar 11), (aVar 17)])) (gN 18) t__law_heard_values_3 e__law_heard_values_4 [18])))
def e__law_heard_values_6 : AE := (aVar 17)
def b__law_heard_values_7 : MS := (mSeq (mAsg (gT 2 (gsCons (gN 14) (gsCons (gN 15) gsNil))) (mPrim fIx [(aVar 2), (aVar 13)])) (mSeq (mSet 16 (mComp (mItems (aVar 5)) (gN 17) t__law_heard_values_5 e__law_heard_values_6 [17])) (mSeq (mIf (mAndT (mTest (mPrim (fIn false) [(aVar 4), (mPrim fIx [(aVar 15), (aVar 3)])])) (mAndT (mNotT (mTest (aVar 16))) (mTest (mPrim fEq [(mCall c__law_parting_person [(aVar 1), (aVar 10), (aVar 14)]), (aVar 3)])))) (mSeq (mIf (mOrT (mTest (mPrim fIsN [(aVar 12), (aC .non)])) (mTest (mPrim fLt [(mPrim fIx [(aVar 7), (aVar 13)]), (aVar 12)]))) (mSeq (mSet 12 (mPrim fIx [(aVar 7), (aVar 13)])) mNext) mNext) mNext) mNext) mNext)))
def b__law_heard_values_8 : MS := (mSeq (mAsg (gT 2 (gsCons (gN 10) (gsCons (gN 11) gsNil))) (mPrim fIx [(aVar 2), (aVar 9)])) (mSeq (mIf (mTest (mPrim (fIn true) [(aVar 4), (mPrim fIx [(aVar 11), (aVar 3)])])) (mSeq (mSet 12 (aC .non)) (mSeq (mFor (mRange1 (mPrim fLen [(aVar 2)])) (gN 13) b__law_heard_values_7) (mSeq (mIf (mTest (mPrim fIsN [(aVar 12), (aC .non)])) (mSeq (mSet 12 (mCall c__law_draw [(aVar 0), (aC (.int 5))])) mNext) mNext) (mSeq (mSetIx 7 (aVar 9) (mPrim fSub [(mPrim fAdd [(aVar 12), (aVar 6)]), (mPrim fMax [(aC (.int 0)), (mPrim fSub [(mCall c__law_draw [(aVar 0), (aC (.int 4))]), (aC (.int 1))])])])) mNext)))) mNext) mNext))
def m__law_heard_values : MS := (mSeq (mSet 7 (mComp (mItems (aVar 2)) (gN 8) mYes e__law_heard_values_1 [8])) (mSeq (mFor (mRange1 (mPrim fLen [(aVar 2)])) (gN 9) b__law_heard_values_2) (mSeq (mFor (mRange1 (mPrim fLen [(aVar 2)])) (gN 9) b__law_heard_values_8) (mSeq (mRet (aVar 7)) mNext))))
def c__law_heard_values : FD := runDef 19 m__law_heard_values
def e__law_heard_house_1 : AE := (mTupRg (mRg1 (aVar 6)))
def e__law_heard_house_2 : AE := (mCall c__law_pop [(aVar 0), (aVar 4)])
def e__law_heard_house_3 : AE := (mPrim fSub [(mCall c__law_draw [(aVar 0), (mPrim fAdd [(mPrim fMul [(aC (.int 2)), (aVar 3)]), (aC (.int 1))])]), (aVar 3)])
def e__law_heard_house_4 : AE := (mPrim fTuple [(mComp (mItems (aVar 1)) (gN 12) mYes e__law_heard_house_3 [12])])
def e__law_heard_house_5 : AE := (mPrim fAdd [(mPrim fIx [(aVar 22), (aVar 12)]), (mPrim fIx [(mPrim fIx [(aVar 11), (aVar 12)]), (aVar 15)])])
def b__law_heard_house_6 : MS := (mSeq (mSet 22 (mCall c__law_heard_values [(aVar 0), (aVar 7), (aVar 8), (aVar 15), (aVar 19), (aVar 17), (aVar 13)])) (mSeq (mExpr (mMeth 20 fAppend [(mPrim fTuple [(mComp (mRange1 (mPrim fLen [(aVar 8)])) (gN 12) mYes e__law_heard_house_5 [12])])])) mNext))
def b__law_heard_house_7 : MS := (mSeq (mSet 20 (mLst [])) (mSeq (mFor (mRange1 (mPrim fAdd [(aC (.int 1)), (mCall c__law_draw [(aVar 0), (aVar 2)])])) (gN 21) b__law_heard_house_6) (mSeq (mExpr (mMeth 18 fAppend [(mTup [(mCall c__law_pop [(aVar 0), (aVar 16)]), (mPrim fTuple [(aVar 20)])])])) mNext)))
def b__law_heard_house_8 : MS := (mSeq (mSet 16 (mCall c__law_pool [])) (mSeq (mSet 17 (mCall c__law_watching [(aVar 0), (aVar 15), (mPrim fLen [(aVar 1)])])) (mSeq (mSet 18 (mLst [])) (mSeq (mFor (mRange1 (mPrim fIx [(aVar 1), (aVar 15)])) (gN 19) b__law_heard_house_7) (mSeq (mExpr (mMeth 14 fAppend [(mTup [(mCall c__law_pop [(aVar 0), (aVar 4)]), (mPrim fTuple [(aVar 18)]), (aVar 17)])])) mNext)))))
def e__law_heard_house_9 : AE := (mPrim fIx [(aVar 10), (aC (.int 0))])
def b__law_heard_house_10 : MS := (mSeq (mSet 26 (mIndex (aVar 23) (mPrim fIx [(mCall c__law_run [(aVar 7), (aVar 25)]), (aC (.int 1))]))) (mSeq (mExpr (mMeth 24 fAppend [(mTup [(aVar 26), (mPrim fIx [(aVar 11), (aVar 26)])])])) mNext))
def m__law_heard_house : MS := (mSeq (mSet 4 (mCall c__law_pool [])) (mSeq (mSet 5 (mPrim fTuple [(mComp (mItems (aVar 1)) (gN 6) mYes e__law_heard_house_1 [6])])) (mSeq (mSet 7 (mCall (c__law_hearing 30) [(aVar 0), (aVar 5), (aC (.int 12))])) (mSeq (mSet 8 (mCall c__law_leaves [(aVar 5), (aVar 7)])) (mSeq (mSet 9 (mPrim fTuple [(mComp (mItems (aVar 8)) (gN 10) mYes e__law_heard_house_2 [10])])) (mSeq (mSet 11 (mComp (mItems (aVar 8)) (gN 10) mYes e__law_heard_house_4 [10])) (mSeq (mSet 13 (aC (.int 0))) (mSeq (mIf (mTest (mPrim fEq [(mCall c__law_draw [(aVar 0), (aC (.int 4))]), (aC (.int 1))])) (mSeq (mSet 13 (mPrim fAdd [(aC (.int 1)), (mCall c__law_draw [(aVar 0), (aC (.int 3))])])) mNext) mNext) (mSeq (mSet 14 (mLst [])) (mSeq (mFor (mRange1 (mPrim fLen [(aVar 1)])) (gN 15) b__law_heard_house_8) (mSeq (mSet 23 (mComp (mItems (aVar 8)) (gN 10) mYes e__law_heard_house_9 [10])) (mSeq (mSet 24 (mLst [])) (mSeq (mFor (mItems (mCall c__law_rows [(aVar 5)])) (gN 25) b__law_heard_house_10) (mSeq (mRet (mTup [(mTup [(aC (.str "house")), (aVar 9), (mPrim fTuple [(aVar 14)]), (mPrim fTuple [(aVar 24)]), (aVar 13)]), (aVar 7)])) mNext))))))))))))))
def c__law_heard_house : FD := runDef 27 m__law_heard_house
def t__law_drawn_box_1 : MT := (mTest (mPrim fGt [(mCall c__law_draw [(aVar 0), (aC (.int 3))]), (aC (.int 0))]))
def e__law_drawn_box_2 : AE := (aVar 5)
def b__law_drawn_box_3 : MS := (mSeq (mSet 4 (mPrim fTuple [(mComp (mItems (aVar 3)) (gN 5) t__law_drawn_box_1 e__law_drawn_box_2 [5])])) (mSeq (mIf (mTest (mPrim fEq [(mPrim fLen [(aVar 4)]), (aC (.int 0))])) (mSeq (mSet 4 (mTup [(mCall c__law_pick [(aVar 0), (aVar 3)])])) mNext) mNext) (mSeq (mExpr (mMeth 2 fAppend [(aVar 4)])) mNext)))
def m__law_drawn_box : MS := (mSeq (mSet 2 (mLst [])) (mSeq (mFor (mItems (aVar 1)) (gN 3) b__law_drawn_box_3) (mSeq (mRet (mPrim fTuple [(aVar 2)])) mNext)))
def c__law_drawn_box : FD := runDef 6 m__law_drawn_box
def b__law_wide_sizes_1 : MS := (mSeq (mSet 4 (mPrim fAdd [(aC (.int 1)), (mCall c__law_draw [(aVar 0), (mPrim fMin [(aC (.int 8)), (mPrim fDiv [(aC (.int 256)), (aVar 2)])])])])) (mSeq (mSet 2 (mPrim fMul [(aVar 2), (aVar 4)])) (mSeq (mExpr (mMeth 1 fAppend [(aVar 4)])) mNext)))
def m__law_wide_sizes : MS := (mSeq (mSet 1 (mLst [])) (mSeq (mSet 2 (aC (.int 1))) (mSeq (mFor (mRange1 (mPrim fAdd [(aC (.int 1)), (mCall c__law_draw [(aVar 0), (aC (.int 4))])])) (gN 3) b__law_wide_sizes_1) (mSeq (mRet (mPrim fTuple [(mCall c__law_shuffled [(aVar 0), (aVar 1)])])) mNext))))
def c__law_wide_sizes : FD := runDef 5 m__law_wide_sizes
def e__law_wide_house_k27_1 : AE := (mCall c__law_pop [(aVar 0), (aVar 2)])
def e__law_wide_house_k27_2 : AE := (mPrim fMul [(mPrim fSub [(mCall c__law_draw [(aVar 0), (aVar 5)]), (mPrim fDiv [(aVar 5), (aC (.int 2))])]), (aVar 4)])
def b__law_wide_house_k27_3 : MS := (mSeq (mExpr (mMeth 12 fAppend [(mPrim fTuple [(mComp (mRange1 (aVar 3)) (gN 14) mYes e__law_wide_house_k27_2 [14])])])) mNext)
def b__law_wide_house_k27_4 : MS := (mSeq (mSet 12 (mLst [])) (mSeq (mFor (mRange1 (mPrim fAdd [(aC (.int 1)), (mCall c__law_draw [(aVar 0), (aC (.int 3))])])) (gN 13) b__law_wide_house_k27_3) (mSeq (mExpr (mMeth 11 fAppend [(mTup [(mCall c__law_pop [(aVar 0), (aVar 10)]), (mPrim fTuple [(aVar 12)])])])) mNext)))
def t__law_wide_house_k27_5 : MT := (mAndT (mTest (mPrim fNe [(aVar 16), (aVar 9)])) (mTest (mPrim fGt [(mCall c__law_draw [(aVar 0), (aC (.int 3))]), (aC (.int 0))])))
def e__law_wide_house_k27_6 : AE := (aVar 16)
def b__law_wide_house_k27_7 : MS := (mSeq (mSet 10 (mCall c__law_pool [])) (mSeq (mSet 11 (mLst [])) (mSeq (mFor (mRange1 (mPrim fIx [(aVar 1), (aVar 9)])) (gN 7) b__law_wide_house_k27_4) (mSeq (mSet 15 (mTup [])) (mSeq (mIf (mTest (mPrim fEq [(mCall c__law_draw [(aVar 0), (aC (.int 3))]), (aC (.int 1))])) (mSeq (mSet 15 (mPrim fTuple [(mComp (mRange1 (mPrim fLen [(aVar 1)])) (gN 16) t__law_wide_house_k27_5 e__law_wide_house_k27_6 [16])])) mNext) mNext) (mSeq (mExpr (mMeth 8 fAppend [(mTup [(mCall c__law_pop [(aVar 0), (aVar 2)]), (mPrim fTuple [(aVar 11)]), (aVar 15)])])) mNext))))))
def e__law_wide_house_k27_8 : AE := (mPrim fMul [(mPrim fSub [(mCall c__law_draw [(aVar 0), (aVar 5)]), (mPrim fDiv [(aVar 5), (aC (.int 2))])]), (aVar 4)])
def b__law_wide_house_k27_9 : MS := (mSeq (mSet 18 (mPrim fTuple [(mComp (mItems (aVar 1)) (gN 19) mYes e__law_wide_house_k27_8 [19])])) (mSeq (mExpr (mMeth 17 fAppend [(mTup [(mCall c__law_draw [(aVar 0), (aVar 3)]), (aVar 18)])])) mNext))
def e__law_wide_house_k27_10 : AE := (mListRg (mRg1 (aVar 19)))
def e__law_wide_house_k27_11 : AE := (mCall c__law_pick [(aVar 0), (aVar 17)])
def m__law_wide_house_k27 : MS := (mSeq (mSet 2 (mCall c__law_pool [])) (mSeq (mSet 3 (mPrim fAdd [(aC (.int 1)), (mCall c__law_draw [(aVar 0), (aC (.int 24))])])) (mSeq (mSet 4 (mCall c__law_pick [(aVar 0), (mLst [(aC (.int 1)), (aC (.int 1000000)), (aC (.int 1000)), (aC (.int 1))])])) (mSeq (mSet 5 (mCall c__law_pick [(aVar 0), (mLst [(aC (.int 2)), (aC (.int 2000001)), (aC (.int 5))])])) (mSeq (mSet 6 (mPrim fTuple [(mComp (mRange1 (aVar 3)) (gN 7) mYes e__law_wide_house_k27_1 [7])])) (mSeq (mSet 8 (mLst [])) (mSeq (mFor (mRange1 (mPrim fLen [(aVar 1)])) (gN 9) b__law_wide_house_k27_7) (mSeq (mSet 17 (mLst [])) (mSeq (mFor (mRange1 (mPrim fAdd [(aC (.int 2)), (mCall c__law_draw [(aVar 0), (aC (.int 30))])])) (gN 7) b__law_wide_house_k27_9) (mSeq (mSet 20 (mPrim fTuple [(mComp (mItems (mCall c__law_rows [(mComp (mItems (aVar 1)) (gN 19) mYes e__law_wide_house_k27_10 [19])])) (gN 21) mYes e__law_wide_house_k27_11 [21])])) (mSeq (mRet (mTup [(aC (.str "house")), (aVar 6), (mPrim fTuple [(aVar 8)]), (aVar 20), (mCall c__law_pick [(aVar 0), (mLst [(aC (.int 0)), (aC (.int 1)), (aC (.int 4000000000000))])])])) mNext)))))))))))
def c__law_wide_house_k27 : FD := runDef 22 m__law_wide_house_k27
def b__law_first_of_1 : MS := (mSeq (mSet 8 (mCall c__law_value [(aVar 0), (aVar 2), (aVar 3), (aVar 4), (mCall c__law_end [(aVar 0), (aVar 7)])])) (mSeq (mIf (mOrT (mTest (mPrim fIsN [(aVar 6), (aC .non)])) (mTest (mPrim fLt [(mPrim fMul [(aVar 5), (aVar 8)]), (mPrim fMul [(aVar 5), (mPrim fIx [(aVar 6), (aC (.int 0))])])]))) (mSeq (mSet 6 (mTup [(aVar 8), (aVar 7)])) mNext) mNext) mNext))
def m__law_first_of : MS := (mSeq (mSet 6 (aC .non)) (mSeq (mFor (mItems (aVar 1)) (gN 7) b__law_first_of_1) (mSeq (mRet (aVar 6)) mNext)))
def c__law_first_of : FD := runDef 9 m__law_first_of
def t__law_case_right_1 : MT := (mTest (mPrim fEq [(mCall c__law_case [(aVar 1), (aVar 3), (aVar 7)]), (aVar 5)]))
def e__law_case_right_2 : AE := (aVar 7)
def t__law_case_right_3 : MT := (mTest (mPrim fEq [(mPrim fIx [(aVar 7), (aVar 3)]), (aVar 9)]))
def e__law_case_right_4 : AE := (aVar 7)
def b__law_case_right_5 : MS := (mSeq (mSet 10 (mComp (mItems (aVar 6)) (gN 7) t__law_case_right_3 e__law_case_right_4 [7])) (mSeq (mIf (mTest (mPrim fEq [(aVar 9), (aVar 4)])) (mSeq (mSet 11 (mCall c_worst_truth [(aVar 1), (aVar 2), (aVar 3), (aVar 4), (aVar 8), (aVar 5)])) (mSeq (mSet 12 (mCall c__law_first_of [(aVar 1), (aVar 10), (aVar 3), (aVar 4), (aVar 8), (aC (.int 1))])) mNext)) (mSeq (mSet 11 (mCall c_best_lie [(aVar 1), (aVar 2), (aVar 3), (aVar 4), (aVar 9), (aVar 8), (aVar 5)])) (mSeq (mSet 12 (mCall c__law_first_of [(aVar 1), (aVar 10), (aVar 3), (aVar 4), (aVar 8), (mPrim fNeg [(aC (.int 1))])])) mNext))) (mSeq (mIf (mTest (mPrim fNe [(mPrim fRepr [(aVar 11)]), (mPrim fRepr [(aVar 12)])])) (mSeq (mRet (aC (.bl false))) mNext) mNext) mNext)))
def m__law_case_right : MS := (mSeq (mSet 6 (mComp (mItems (mCall c__law_rows [(aVar 2)])) (gN 7) t__law_case_right_1 e__law_case_right_2 [7])) (mSeq (mSet 8 (mCall c__law_draw [(aVar 0), (mPrim fLen [(mPrim fIx [(mPrim fIx [(mPrim fIx [(mPrim fIx [(mPrim fIx [(aVar 1), (aC (.int 2))]), (aVar 3)]), (aC (.int 1))]), (aVar 4)]), (aC (.int 1))])])])) (mSeq (mFor (mItems (mPrim fIx [(aVar 2), (aVar 3)])) (gN 9) b__law_case_right_5) (mSeq (mRet (aC (.bl true))) mNext))))
def c__law_case_right : FD := runDef 13 m__law_case_right
def e__law_box_right_1 : AE := (mPrim fIx [(aVar 2), (aVar 6)])
def e__law_box_right_2 : AE := (mCall c__law_pop [(aVar 0), (aVar 7)])
def e__law_box_right_3 : AE := (mCall c__law_pick [(aVar 0), (aVar 5)])
def b__law_box_right_4 : MS := (mSeq (mIf (mNotT (mTest (mCall c__law_case_right [(aVar 0), (aVar 1), (aVar 2), (aVar 4), (aVar 9), (aVar 11)]))) (mSeq (mRet (aC (.bl false))) mNext) mNext) mNext)
def b__law_box_right_5 : MS := (mSeq (mSet 10 (aFz 5)) (mSeq (mIf (mTest (mPrim fGt [(mPrim fLen [(aVar 5)]), (aVar 3)])) (mSeq (mSet 10 (mComp (mRange1 (aVar 3)) (gN 8) mYes e__law_box_right_3 [8])) mNext) mNext) (mSeq (mFor (mItems (aVar 10)) (gN 11) b__law_box_right_4) mNext)))
def b__law_box_right_6 : MS := (mSeq (mSet 5 (mCall c__law_rows [(mComp (mItems (mPrim fIx [(mPrim fIx [(mPrim fIx [(aVar 1), (aC (.int 2))]), (aVar 4)]), (aC (.int 2))])) (gN 6) mYes e__law_box_right_1 [6])])) (mSeq (mSet 7 (mPrim fList [(mPrim fIx [(aVar 2), (aVar 4)])])) (mSeq (mIf (mTest (mPrim fGt [(mPrim fLen [(aVar 7)]), (aVar 3)])) (mSeq (mSet 7 (mComp (mRange1 (aVar 3)) (gN 8) mYes e__law_box_right_2 [8])) mNext) mNext) (mSeq (mFor (mItems (aVar 7)) (gN 9) b__law_box_right_5) mNext))))
def m__law_box_right : MS := (mSeq (mFor (mRange1 (mPrim fLen [(aVar 2)])) (gN 4) b__law_box_right_6) (mSeq (mRet (aC (.bl true))) mNext))
def c__law_box_right : FD := runDef 12 m__law_box_right
def b_law_k27_1 : MS := (mSeq (mIf (mNotT (mTest (mCall c__law_box_right [(aVar 1), (aVar 2), (aVar 6), (aC (.int 3))]))) (mSeq (mRet (aC (.bl false))) mNext) mNext) mNext)
def m_law_k27 : MS := (mSeq (mSet 1 (mCall c__law_begin [(aVar 0)])) (mSeq (mIf (mTest (mPrim fEq [(mCall c__law_draw [(aVar 1), (aC (.int 8))]), (aC (.int 3))])) (mSeq (mSet 2 (mCall c__law_wide_house_k27 [(aVar 1), (mCall c__law_wide_sizes [(aVar 1)])])) (mSeq (mSet 3 (mCall c__law_whole [(aVar 2)])) (mSeq (mIf (mTest (mPrim fEq [(mCall c__law_draw [(aVar 1), (aC (.int 2))]), (aC (.int 1))])) (mSeq (mSet 3 (mCall c__law_drawn_box [(aVar 1), (aVar 3)])) mNext) mNext) (mSeq (mRet (mCall c__law_box_right [(aVar 1), (aVar 2), (aVar 3), (aC (.int 1))])) mNext)))) mNext) (mSeq (mSet 4 (mCall c__law_sizes [(aVar 1), (aC (.int 18))])) (mSeq (mIf (mTest (mPrim fEq [(mCall c__law_draw [(aVar 1), (aC (.int 2))]), (aC (.int 1))])) (mSeq (mSet 2 (mPrim fIx [(mCall c__law_heard_house [(aVar 1), (aVar 4), (aC (.int 3)), (mCall c__law_draw [(aVar 1), (aC (.int 3))])]), (aC (.int 0))])) mNext) (mSeq (mSet 2 (mCall c__law_house [(aVar 1), (aVar 4), (mPrim fAdd [(aC (.int 2)), (mCall c__law_draw [(aVar 1), (aC (.int 3))])]), (aC (.int 3)), (mCall c__law_draw [(aVar 1), (aC (.int 3))])])) mNext)) (mSeq (mSet 3 (mCall c__law_whole [(aVar 2)])) (mSeq (mSet 5 (mCall c__law_drawn_box [(aVar 1), (aVar 3)])) (mSeq (mFor (mItems (mLst [(aVar 5), (aVar 3), (aVar 5)])) (gN 6) b_law_k27_1) (mSeq (mRet (aC (.bl true))) mNext))))))))
def c_law_k27 : FD := runDef 7 m_law_k27
def m__law_is_int : MS := (mSeq (mRet (mAndV (mPrim (fIsi "int") [(aVar 0)]) (mNotV (mPrim (fIsi "bool") [(aVar 0)])))) mNext)
def c__law_is_int : FD := runDef 1 m__law_is_int
def e_cases_of_1 : AE := (mPrim fIx [(aVar 1), (aVar 3)])
def m_cases_of : MS := (mSeq (mRet (mCall c_combined [(mComp (mItems (mCall c_watches_of [(aVar 0), (aVar 2)])) (gN 3) mYes e_cases_of_1 [3])])) mNext)
def c_cases_of : FD := runDef 4 m_cases_of
def e__law_is_ints_1 : AE := (mCall c__law_is_int [(aVar 1)])
def m__law_is_ints : MS := (mSeq (mRet (mAndV (mPrim (fIsi "tuple") [(aVar 0)]) (mPrim fAll [(mComp (mItems (aVar 0)) (gN 1) mYes e__law_is_ints_1 [1])]))) mNext)
def c__law_is_ints : FD := runDef 2 m__law_is_ints
def e_values_of_1 : AE := (mCall c_value_by [(aVar 4), (aVar 1), (aVar 3)])
def m_values_of : MS := (mSeq (mRet (mPrim fTuple [(mComp (mItems (mCall c_worths_of [(aVar 0), (aVar 1), (aVar 2)])) (gN 4) mYes e_values_of_1 [4])])) mNext)
def c_values_of : FD := runDef 5 m_values_of
def b_weighted_sum_1 : MS := (mSeq (mSet 2 (mPrim fAdd [(aVar 2), (mPrim fMul [(mPrim fIx [(aVar 0), (aVar 3)]), (mPrim fIx [(aVar 1), (aVar 3)])])])) mNext)
def m_weighted_sum : MS := (mSeq (mSet 2 (aC (.int 0))) (mSeq (mFor (mRange1 (mPrim fLen [(aVar 1)])) (gN 3) b_weighted_sum_1) (mSeq (mRet (aVar 2)) mNext)))
def c_weighted_sum : FD := runDef 4 m_weighted_sum
def m_mixed_value : MS := (mSeq (mRet (mCall c_weighted_sum [(aVar 3), (mCall c_values_of [(aVar 0), (aVar 1), (aVar 2), (aVar 4)])])) mNext)
def c_mixed_value : FD := runDef 5 m_mixed_value
def m_rows_in : MS := (mSeq (mRet (mCall c_rows_of [(mCall c_case_box [(aVar 0), (aVar 1), (aVar 2), (aVar 3)])])) mNext)
def c_rows_in : FD := runDef 4 m_rows_in
def t__law_wide_watches_1 : MT := (mTest (mPrim fNe [(aVar 5), (aVar 1)]))
def e__law_wide_watches_2 : AE := (aVar 5)
def t__law_wide_watches_3 : MT := (mAndT (mTest (mPrim fEq [(aVar 3), (aC (.int 2))])) (mTest (mPrim fEq [(mCall c__law_draw [(aVar 0), (aC (.int 2))]), (aC (.int 1))])))
def e__law_wide_watches_4 : AE := (aVar 5)
def m__law_wide_watches : MS := (mSeq (mSet 3 (mCall c__law_draw [(aVar 0), (aC (.int 3))])) (mSeq (mSet 4 (mComp (mRange1 (aVar 2)) (gN 5) t__law_wide_watches_1 e__law_wide_watches_2 [5])) (mSeq (mIf (mTest (mPrim fEq [(aVar 3), (aC (.int 1))])) (mSeq (mRet (mPrim fTuple [(aVar 4)])) mNext) mNext) (mSeq (mRet (mPrim fTuple [(mComp (mItems (aVar 4)) (gN 5) t__law_wide_watches_3 e__law_wide_watches_4 [5])])) mNext))))
def c__law_wide_watches : FD := runDef 6 m__law_wide_watches
def e__law_wide_house_1 : AE := (mCall c__law_pop [(aVar 0), (aVar 2)])
def e__law_wide_house_2 : AE := (mPrim fMul [(mPrim fSub [(mCall c__law_draw [(aVar 0), (aC (.int 2000001))]), (aC (.int 1000000))]), (aVar 4)])
def b__law_wide_house_3 : MS := (mSeq (mExpr (mMeth 11 fAppend [(mPrim fTuple [(mComp (mRange1 (aVar 3)) (gN 13) mYes e__law_wide_house_2 [13])])])) mNext)
def b__law_wide_house_4 : MS := (mSeq (mSet 11 (mLst [])) (mSeq (mFor (mRange1 (mPrim fAdd [(aC (.int 1)), (mCall c__law_draw [(aVar 0), (aC (.int 3))])])) (gN 12) b__law_wide_house_3) (mSeq (mExpr (mMeth 10 fAppend [(mTup [(mCall c__law_pop [(aVar 0), (aVar 9)]), (mPrim fTuple [(aVar 11)])])])) mNext)))
def b__law_wide_house_5 : MS := (mSeq (mSet 9 (mCall c__law_pool [])) (mSeq (mSet 10 (mLst [])) (mSeq (mFor (mRange1 (mPrim fIx [(aVar 1), (aVar 8)])) (gN 6) b__law_wide_house_4) (mSeq (mExpr (mMeth 7 fAppend [(mTup [(mCall c__law_pop [(aVar 0), (aVar 2)]), (mPrim fTuple [(aVar 10)]), (mCall c__law_wide_watches [(aVar 0), (aVar 8), (mPrim fLen [(aVar 1)])])])])) mNext))))
def e__law_wide_house_6 : AE := (mPrim fMul [(mPrim fSub [(mCall c__law_draw [(aVar 0), (aC (.int 2000001))]), (aC (.int 1000000))]), (aVar 4)])
def b__law_wide_house_7 : MS := (mSeq (mSet 15 (mPrim fTuple [(mComp (mItems (aVar 1)) (gN 16) mYes e__law_wide_house_6 [16])])) (mSeq (mExpr (mMeth 14 fAppend [(mTup [(mCall c__law_draw [(aVar 0), (aVar 3)]), (aVar 15)])])) mNext))
def e__law_wide_house_8 : AE := (mListRg (mRg1 (aVar 16)))
def e__law_wide_house_9 : AE := (mCall c__law_pick [(aVar 0), (aVar 14)])
def m__law_wide_house : MS := (mSeq (mSet 2 (mCall c__law_pool [])) (mSeq (mSet 3 (mPrim fAdd [(aC (.int 1)), (mCall c__law_draw [(aVar 0), (aC (.int 24))])])) (mSeq (mSet 4 (mCall c__law_pick [(aVar 0), (mLst [(aC (.int 1)), (aC (.int 1000000)), (aC (.int 1000)), (aC (.int 1))])])) (mSeq (mSet 5 (mPrim fTuple [(mComp (mRange1 (aVar 3)) (gN 6) mYes e__law_wide_house_1 [6])])) (mSeq (mSet 7 (mLst [])) (mSeq (mFor (mRange1 (mPrim fLen [(aVar 1)])) (gN 8) b__law_wide_house_5) (mSeq (mSet 14 (mLst [])) (mSeq (mFor (mRange1 (mPrim fAdd [(aC (.int 1)), (mCall c__law_draw [(aVar 0), (aC (.int 4))])])) (gN 6) b__law_wide_house_7) (mSeq (mSet 17 (mPrim fTuple [(mComp (mItems (mCall c__law_rows [(mComp (mItems (aVar 1)) (gN 16) mYes e__law_wide_house_8 [16])])) (gN 18) mYes e__law_wide_house_9 [18])])) (mSeq (mRet (mTup [(aC (.str "house")), (aVar 5), (mPrim fTuple [(aVar 7)]), (aVar 17), (mCall c__law_pick [(aVar 0), (mLst [(aC (.int 0)), (aC (.int 1)), (aC (.int 4000000000000))])])])) mNext))))))))))
def c__law_wide_house : FD := runDef 19 m__law_wide_house
end S

namespace P_k27
open Z PySem PySem.Spec PyProof.Rows L2 S
def top (i : Nat) : Stmt := PySem.Challenge.pw_plainhearing_k27_worst_and_best.main.body.getD i (.Pass ⟨0, 0, 0, 0⟩)
structure Fx (K : PySem.W.Frag) (mg : Str → Option Value) where
  a_count_of : Addr
  d_count_of : FuncData
  F_count_of : FunD K "count_of" "count_of" (defArgs (top 1)) (defBody (top 1)) (defScope (top 1)) [] [] a_count_of d_count_of
  g_count_of : mg "count_of" = some (.ref a_count_of)
  b_count_of : Binds K d_count_of ["house"] []
  a_kinds_of : Addr
  d_kinds_of : FuncData
  F_kinds_of : FunD K "kinds_of" "kinds_of" (defArgs (top 2)) (defBody (top 2)) (defScope (top 2)) [] [] a_kinds_of d_kinds_of
  g_kinds_of : mg "kinds_of" = some (.ref a_kinds_of)
  b_kinds_of : Binds K d_kinds_of ["house", "person"] []
  a_watches_of : Addr
  d_watches_of : FuncData
  F_watches_of : FunD K "watches_of" "watches_of" (defArgs (top 3)) (defBody (top 3)) (defScope (top 3)) [] [] a_watches_of d_watches_of
  g_watches_of : mg "watches_of" = some (.ref a_watches_of)
  b_watches_of : Binds K d_watches_of ["house", "person"] []
  a_combined : Addr
  d_combined : FuncData
  F_combined : FunD K "combined" "combined" (defArgs (top 4)) (defBody (top 4)) (defScope (top 4)) [] [] a_combined d_combined
  g_combined : mg "combined" = some (.ref a_combined)
  b_combined : Binds K d_combined ["parts"] []
  a_rows_of : Addr
  d_rows_of : FuncData
  F_rows_of : FunD K "rows_of" "rows_of" (defArgs (top 5)) (defBody (top 5)) (defScope (top 5)) [] [] a_rows_of d_rows_of
  g_rows_of : mg "rows_of" = some (.ref a_rows_of)
  b_rows_of : Binds K d_rows_of ["box"] []
  a_narrowed : Addr
  d_narrowed : FuncData
  F_narrowed : FunD K "narrowed" "narrowed" (defArgs (top 6)) (defBody (top 6)) (defScope (top 6)) [] [] a_narrowed d_narrowed
  g_narrowed : mg "narrowed" = some (.ref a_narrowed)
  b_narrowed : Binds K d_narrowed ["box", "person", "kinds"] []
  a_row_number : Addr
  d_row_number : FuncData
  F_row_number : FunD K "row_number" "row_number" (defArgs (top 7)) (defBody (top 7)) (defScope (top 7)) [] [] a_row_number d_row_number
  g_row_number : mg "row_number" = some (.ref a_row_number)
  b_row_number : Binds K d_row_number ["house", "row"] []
  a_end_of : Addr
  d_end_of : FuncData
  F_end_of : FunD K "end_of" "end_of" (defArgs (top 8)) (defBody (top 8)) (defScope (top 8)) [] [] a_end_of d_end_of
  g_end_of : mg "end_of" = some (.ref a_end_of)
  b_end_of : Binds K d_end_of ["house", "row"] []
  a_worths_of : Addr
  d_worths_of : FuncData
  F_worths_of : FunD K "worths_of" "worths_of" (defArgs (top 10)) (defBody (top 10)) (defScope (top 10)) [] [] a_worths_of d_worths_of
  g_worths_of : mg "worths_of" = some (.ref a_worths_of)
  b_worths_of : Binds K d_worths_of ["house", "person", "kind"] []
  a_row_worths : Addr
  d_row_worths : FuncData
  F_row_worths : FunD K "row_worths" "row_worths" (defArgs (top 11)) (defBody (top 11)) (defScope (top 11)) [] [] a_row_worths d_row_worths
  g_row_worths : mg "row_worths" = some (.ref a_row_worths)
  b_row_worths : Binds K d_row_worths ["house", "person", "kind", "worth"] []
  a_payment_of : Addr
  d_payment_of : FuncData
  F_payment_of : FunD K "payment_of" "payment_of" (defArgs (top 12)) (defBody (top 12)) (defScope (top 12)) [] [] a_payment_of d_payment_of
  g_payment_of : mg "payment_of" = some (.ref a_payment_of)
  b_payment_of : Binds K d_payment_of ["person", "end"] []
  a_value_by : Addr
  d_value_by : FuncData
  F_value_by : FunD K "value_by" "value_by" (defArgs (top 13)) (defBody (top 13)) (defScope (top 13)) [] [] a_value_by d_value_by
  g_value_by : mg "value_by" = some (.ref a_value_by)
  b_value_by : Binds K d_value_by ["numbers", "person", "end"] []
  a_value_of : Addr
  d_value_of : FuncData
  F_value_of : FunD K "value_of" "value_of" (defArgs (top 14)) (defBody (top 14)) (defScope (top 14)) [] [] a_value_of d_value_of
  g_value_of : mg "value_of" = some (.ref a_value_of)
  b_value_of : Binds K d_value_of ["house", "person", "kind", "worth", "end"] []
  a_case_box : Addr
  d_case_box : FuncData
  F_case_box : FunD K "case_box" "case_box" (defArgs (top 16)) (defBody (top 16)) (defScope (top 16)) [] [] a_case_box d_case_box
  g_case_box : mg "case_box" = some (.ref a_case_box)
  b_case_box : Binds K d_case_box ["house", "box", "person", "case"] []
  a_rows_saying : Addr
  d_rows_saying : FuncData
  F_rows_saying : FunD K "rows_saying" "rows_saying" (defArgs (top 17)) (defBody (top 17)) (defScope (top 17)) [] [] a_rows_saying d_rows_saying
  g_rows_saying : mg "rows_saying" = some (.ref a_rows_saying)
  b_rows_saying : Binds K d_rows_saying ["house", "box", "person", "case", "word"] []
  a_valued_rows : Addr
  d_valued_rows : FuncData
  F_valued_rows : FunD K "valued_rows" "valued_rows" (defArgs (top 18)) (defBody (top 18)) (defScope (top 18)) [] [] a_valued_rows d_valued_rows
  g_valued_rows : mg "valued_rows" = some (.ref a_valued_rows)
  b_valued_rows : Binds K d_valued_rows ["house", "rows", "person", "kind", "worth"] []
  a_first_least : Addr
  d_first_least : FuncData
  F_first_least : FunD K "first_least" "first_least" (defArgs (top 19)) (defBody (top 19)) (defScope (top 19)) [] [] a_first_least d_first_least
  g_first_least : mg "first_least" = some (.ref a_first_least)
  b_first_least : Binds K d_first_least ["pairs"] []
  a_first_greatest : Addr
  d_first_greatest : FuncData
  F_first_greatest : FunD K "first_greatest" "first_greatest" (defArgs (top 20)) (defBody (top 20)) (defScope (top 20)) [] [] a_first_greatest d_first_greatest
  g_first_greatest : mg "first_greatest" = some (.ref a_first_greatest)
  b_first_greatest : Binds K d_first_greatest ["pairs"] []
  a_worst_truth : Addr
  d_worst_truth : FuncData
  F_worst_truth : FunD K "worst_truth" "worst_truth" (defArgs (top 21)) (defBody (top 21)) (defScope (top 21)) [] [] a_worst_truth d_worst_truth
  g_worst_truth : mg "worst_truth" = some (.ref a_worst_truth)
  b_worst_truth : Binds K d_worst_truth ["house", "box", "person", "kind", "worth", "case"] []
  a_best_lie : Addr
  d_best_lie : FuncData
  F_best_lie : FunD K "best_lie" "best_lie" (defArgs (top 22)) (defBody (top 22)) (defScope (top 22)) [] [] a_best_lie d_best_lie
  g_best_lie : mg "best_lie" = some (.ref a_best_lie)
  b_best_lie : Binds K d_best_lie ["house", "box", "person", "kind", "other", "worth", "case"] []
  a__law_begin : Addr
  d__law_begin : FuncData
  F__law_begin : FunD K "_law_begin" "_law_begin" (defArgs (top 24)) (defBody (top 24)) (defScope (top 24)) [] [] a__law_begin d__law_begin
  g__law_begin : mg "_law_begin" = some (.ref a__law_begin)
  b__law_begin : Binds K d__law_begin ["script"] []
  a__law_draw : Addr
  d__law_draw : FuncData
  F__law_draw : FunD K "_law_draw" "_law_draw" (defArgs (top 25)) (defBody (top 25)) (defScope (top 25)) [] [] a__law_draw d__law_draw
  g__law_draw : mg "_law_draw" = some (.ref a__law_draw)
  b__law_draw : Binds K d__law_draw ["d", "many"] []
  a__law_pick : Addr
  d__law_pick : FuncData
  F__law_pick : FunD K "_law_pick" "_law_pick" (defArgs (top 26)) (defBody (top 26)) (defScope (top 26)) [] [] a__law_pick d__law_pick
  g__law_pick : mg "_law_pick" = some (.ref a__law_pick)
  b__law_pick : Binds K d__law_pick ["d", "row"] []
  a__law_pop : Addr
  d__law_pop : FuncData
  F__law_pop : FunD K "_law_pop" "_law_pop" (defArgs (top 27)) (defBody (top 27)) (defScope (top 27)) [] [] a__law_pop d__law_pop
  g__law_pop : mg "_law_pop" = some (.ref a__law_pop)
  b__law_pop : Binds K d__law_pop ["d", "row"] []
  a__law_shuffled : Addr
  d__law_shuffled : FuncData
  F__law_shuffled : FunD K "_law_shuffled" "_law_shuffled" (defArgs (top 28)) (defBody (top 28)) (defScope (top 28)) [] [] a__law_shuffled d__law_shuffled
  g__law_shuffled : mg "_law_shuffled" = some (.ref a__law_shuffled)
  b__law_shuffled : Binds K d__law_shuffled ["d", "row"] []
  a__law_pool : Addr
  d__law_pool : FuncData
  F__law_pool : FunD K "_law_pool" "_law_pool" (defArgs (top 29)) (defBody (top 29)) (defScope (top 29)) [] [] a__law_pool d__law_pool
  g__law_pool : mg "_law_pool" = some (.ref a__law_pool)
  b__law_pool : Binds K d__law_pool [] []
  a__law_number : Addr
  d__law_number : FuncData
  F__law_number : FunD K "_law_number" "_law_number" (defArgs (top 30)) (defBody (top 30)) (defScope (top 30)) [] [] a__law_number d__law_number
  g__law_number : mg "_law_number" = some (.ref a__law_number)
  b__law_number : Binds K d__law_number ["d"] []
  a__law_sizes : Addr
  d__law_sizes : FuncData
  F__law_sizes : FunD K "_law_sizes" "_law_sizes" (defArgs (top 31)) (defBody (top 31)) (defScope (top 31)) [] [] a__law_sizes d__law_sizes
  g__law_sizes : mg "_law_sizes" = some (.ref a__law_sizes)
  b__law_sizes : Binds K d__law_sizes ["d", "limit"] []
  a__law_rows : Addr
  d__law_rows : FuncData
  F__law_rows : FunD K "_law_rows" "_law_rows" (defArgs (top 32)) (defBody (top 32)) (defScope (top 32)) [] [] a__law_rows d__law_rows
  g__law_rows : mg "_law_rows" = some (.ref a__law_rows)
  b__law_rows : Binds K d__law_rows ["box"] []
  a__law_watching : Addr
  d__law_watching : FuncData
  F__law_watching : FunD K "_law_watching" "_law_watching" (defArgs (top 33)) (defBody (top 33)) (defScope (top 33)) [] [] a__law_watching d__law_watching
  g__law_watching : mg "_law_watching" = some (.ref a__law_watching)
  b__law_watching : Binds K d__law_watching ["d", "person", "many"] []
  a__law_house : Addr
  d__law_house : FuncData
  F__law_house : FunD K "_law_house" "_law_house" (defArgs (top 34)) (defBody (top 34)) (defScope (top 34)) [] [] a__law_house d__law_house
  g__law_house : mg "_law_house" = some (.ref a__law_house)
  b__law_house : Binds K d__law_house ["d", "sizes", "outcomes", "worths", "pay"] []
  a__law_parts : Addr
  d__law_parts : FuncData
  F__law_parts : FunD K "_law_parts" "_law_parts" (defArgs (top 35)) (defBody (top 35)) (defScope (top 35)) [] [] a__law_parts d__law_parts
  g__law_parts : mg "_law_parts" = some (.ref a__law_parts)
  b__law_parts : Binds K d__law_parts ["d", "kinds"] []
  a__law_narrowed : Addr
  d__law_narrowed : FuncData
  F__law_narrowed : FunD K "_law_narrowed" "_law_narrowed" (defArgs (top 36)) (defBody (top 36)) (defScope (top 36)) [] [] a__law_narrowed d__law_narrowed
  g__law_narrowed : mg "_law_narrowed" = some (.ref a__law_narrowed)
  b__law_narrowed : Binds K d__law_narrowed ["box", "person", "kinds"] []
  a__law_hearing : Addr
  d__law_hearing : FuncData
  F__law_hearing : FunD K "_law_hearing" "_law_hearing" (defArgs (top 37)) (defBody (top 37)) (defScope (top 37)) [] [] a__law_hearing d__law_hearing
  g__law_hearing : mg "_law_hearing" = some (.ref a__law_hearing)
  b__law_hearing : Binds K d__law_hearing ["d", "box", "many"] []
  a__law_nodes : Addr
  d__law_nodes : FuncData
  F__law_nodes : FunD K "_law_nodes" "_law_nodes" (defArgs (top 38)) (defBody (top 38)) (defScope (top 38)) [] [] a__law_nodes d__law_nodes
  g__law_nodes : mg "_law_nodes" = some (.ref a__law_nodes)
  b__law_nodes : Binds K d__law_nodes ["box", "hearing"] []
  a__law_leaves : Addr
  d__law_leaves : FuncData
  F__law_leaves : FunD K "_law_leaves" "_law_leaves" (defArgs (top 39)) (defBody (top 39)) (defScope (top 39)) [] [] a__law_leaves d__law_leaves
  g__law_leaves : mg "_law_leaves" = some (.ref a__law_leaves)
  b__law_leaves : Binds K d__law_leaves ["box", "hearing"] []
  a__law_run : Addr
  d__law_run : FuncData
  F__law_run : FunD K "_law_run" "_law_run" (defArgs (top 40)) (defBody (top 40)) (defScope (top 40)) [] [] a__law_run d__law_run
  g__law_run : mg "_law_run" = some (.ref a__law_run)
  b__law_run : Binds K d__law_run ["hearing", "row"] []
  a__law_whole : Addr
  d__law_whole : FuncData
  F__law_whole : FunD K "_law_whole" "_law_whole" (defArgs (top 41)) (defBody (top 41)) (defScope (top 41)) [] [] a__law_whole d__law_whole
  g__law_whole : mg "_law_whole" = some (.ref a__law_whole)
  b__law_whole : Binds K d__law_whole ["house"] []
  a__law_end : Addr
  d__law_end : FuncData
  F__law_end : FunD K "_law_end" "_law_end" (defArgs (top 42)) (defBody (top 42)) (defScope (top 42)) [] [] a__law_end d__law_end
  g__law_end : mg "_law_end" = some (.ref a__law_end)
  b__law_end : Binds K d__law_end ["house", "row"] []
  a__law_value : Addr
  d__law_value : FuncData
  F__law_value : FunD K "_law_value" "_law_value" (defArgs (top 43)) (defBody (top 43)) (defScope (top 43)) [] [] a__law_value d__law_value
  g__law_value : mg "_law_value" = some (.ref a__law_value)
  b__law_value : Binds K d__law_value ["house", "person", "kind", "worth", "end"] []
  a__law_case : Addr
  d__law_case : FuncData
  F__law_case : FunD K "_law_case" "_law_case" (defArgs (top 44)) (defBody (top 44)) (defScope (top 44)) [] [] a__law_case d__law_case
  g__law_case : mg "_law_case" = some (.ref a__law_case)
  b__law_case : Binds K d__law_case ["house", "person", "row"] []
  a__law_parting_person : Addr
  d__law_parting_person : FuncData
  F__law_parting_person : FunD K "_law_parting_person" "_law_parting_person" (defArgs (top 45)) (defBody (top 45)) (defScope (top 45)) [] [] a__law_parting_person d__law_parting_person
  g__law_parting_person : mg "_law_parting_person" = some (.ref a__law_parting_person)
  b__law_parting_person : Binds K d__law_parting_person ["hearing", "path", "other"] []
  a__law_heard_values : Addr
  d__law_heard_values : FuncData
  F__law_heard_values : FunD K "_law_heard_values" "_law_heard_values" (defArgs (top 46)) (defBody (top 46)) (defScope (top 46)) [] [] a__law_heard_values d__law_heard_values
  g__law_heard_values : mg "_law_heard_values" = some (.ref a__law_heard_values)
  b__law_heard_values : Binds K d__law_heard_values ["d", "hearing", "leaves", "person", "kind", "watches", "slack"] []
  a__law_heard_house : Addr
  d__law_heard_house : FuncData
  F__law_heard_house : FunD K "_law_heard_house" "_law_heard_house" (defArgs (top 47)) (defBody (top 47)) (defScope (top 47)) [] [] a__law_heard_house d__law_heard_house
  g__law_heard_house : mg "_law_heard_house" = some (.ref a__law_heard_house)
  b__law_heard_house : Binds K d__law_heard_house ["d", "sizes", "worths", "pay"] []
  a__law_drawn_box : Addr
  d__law_drawn_box : FuncData
  F__law_drawn_box : FunD K "_law_drawn_box" "_law_drawn_box" (defArgs (top 48)) (defBody (top 48)) (defScope (top 48)) [] [] a__law_drawn_box d__law_drawn_box
  g__law_drawn_box : mg "_law_drawn_box" = some (.ref a__law_drawn_box)
  b__law_drawn_box : Binds K d__law_drawn_box ["d", "box"] []
  a__law_wide_sizes : Addr
  d__law_wide_sizes : FuncData
  F__law_wide_sizes : FunD K "_law_wide_sizes" "_law_wide_sizes" (defArgs (top 49)) (defBody (top 49)) (defScope (top 49)) [] [] a__law_wide_sizes d__law_wide_sizes
  g__law_wide_sizes : mg "_law_wide_sizes" = some (.ref a__law_wide_sizes)
  b__law_wide_sizes : Binds K d__law_wide_sizes ["d"] []
  a__law_wide_house : Addr
  d__law_wide_house : FuncData
  F__law_wide_house : FunD K "_law_wide_house" "_law_wide_house" (defArgs (top 50)) (defBody (top 50)) (defScope (top 50)) [] [] a__law_wide_house d__law_wide_house
  g__law_wide_house : mg "_law_wide_house" = some (.ref a__law_wide_house)
  b__law_wide_house : Binds K d__law_wide_house ["d", "sizes"] []
  a__law_first_of : Addr
  d__law_first_of : FuncData
  F__law_first_of : FunD K "_law_first_of" "_law_first_of" (defArgs (top 51)) (defBody (top 51)) (defScope (top 51)) [] [] a__law_first_of d__law_first_of
  g__law_first_of : mg "_law_first_of" = some (.ref a__law_first_of)
  b__law_first_of : Binds K d__law_first_of ["house", "rows", "person", "kind", "worth", "sign"] []
  a__law_case_right : Addr
  d__law_case_right : FuncData
  F__law_case_right : FunD K "_law_case_right" "_law_case_right" (defArgs (top 52)) (defBody (top 52)) (defScope (top 52)) [] [] a__law_case_right d__law_case_right
  g__law_case_right : mg "_law_case_right" = some (.ref a__law_case_right)
  b__law_case_right : Binds K d__law_case_right ["d", "house", "box", "person", "kind", "case"] []
  a__law_box_right : Addr
  d__law_box_right : FuncData
  F__law_box_right : FunD K "_law_box_right" "_law_box_right" (defArgs (top 53)) (defBody (top 53)) (defScope (top 53)) [] [] a__law_box_right d__law_box_right
  g__law_box_right : mg "_law_box_right" = some (.ref a__law_box_right)
  b__law_box_right : Binds K d__law_box_right ["d", "house", "box", "most"] []
  a_law : Addr
  d_law : FuncData
  F_law : FunD K "law" "law" (defArgs (top 54)) (defBody (top 54)) (defScope (top 54)) [] [] a_law d_law
  g_law : mg "law" = some (.ref a_law)
  b_law : Binds K d_law ["script"] []
  n_abs : mg "abs" = none
  n_int : mg "int" = none
  n_len : mg "len" = none
  n_list : mg "list" = none
  n_max : mg "max" = none
  n_min : mg "min" = none
  n_range : mg "range" = none
  n_repr : mg "repr" = none
  n_tuple : mg "tuple" = none
section
variable {P : Program} {w : World} {K : PySem.W.Frag} {mg : Str → Option Value} {base : Heap}
theorem sc_count_of : FnScope ["house"] ["house"] (defScope (top 1)) := ⟨rfl, rfl, rfl, by decide +kernel, rfl, by decide +kernel, by decide +kernel⟩
theorem ok_count_of (W : Fx K mg) : FnOkG P w K mg base CX0 1 W.a_count_of W.d_count_of ["house"] (spD K 1 c_count_of) :=
  fn_okD W.F_count_of sc_count_of rfl rfl fun cdv A outer s H E hr => (have hN := sc_count_of.nd; (sss_cons (ss_ret (sa_callB call_lenAll s_len W.n_len (by decide +kernel) (sas_cons (sa_ix (u1 hr) sa_var sa_int) sas_nil))) sss_nil) : SSs _ _ m_count_of)
theorem sc_kinds_of : FnScope ["house", "person"] ["house", "person"] (defScope (top 2)) := ⟨rfl, rfl, rfl, by decide +kernel, rfl, by decide +kernel, by decide +kernel⟩
theorem ok_kinds_of (W : Fx K mg) : FnOkG P w K mg base CX0 1 W.a_kinds_of W.d_kinds_of ["house", "person"] (spD K 2 c_kinds_of) :=
  fn_okD W.F_kinds_of sc_kinds_of rfl rfl fun cdv A outer s H E hr => (have hN := sc_kinds_of.nd; (sss_cons (ss_ret (sa_ix (u1 hr) (sa_ix (u1 hr) (sa_ix (u1 hr) sa_var sa_int) sa_var) sa_int)) sss_nil) : SSs _ _ m_kinds_of)
theorem sc_watches_of : FnScope ["house", "person"] ["house", "person"] (defScope (top 3)) := ⟨rfl, rfl, rfl, by decide +kernel, rfl, by decide +kernel, by decide +kernel⟩
theorem ok_watches_of (W : Fx K mg) : FnOkG P w K mg base CX0 1 W.a_watches_of W.d_watches_of ["house", "person"] (spD K 2 c_watches_of) :=
  fn_okD W.F_watches_of sc_watches_of rfl rfl fun cdv A outer s H E hr => (have hN := sc_watches_of.nd; (sss_cons (ss_ret (sa_ix (u1 hr) (sa_ix (u1 hr) (sa_ix (u1 hr) sa_var sa_int) sa_var) sa_int)) sss_nil) : SSs _ _ m_watches_of)
theorem sc_combined : FnScope ["parts", "rows", "part", "row", "thing"] ["parts"] (defScope (top 4)) := ⟨rfl, rfl, rfl, by decide +kernel, rfl, by decide +kernel, by decide +kernel⟩
theorem ok_combined (W : Fx K mg) : FnOkG P w K mg base CX0 1 W.a_combined W.d_combined ["parts"] (spD K 1 c_combined) :=
  fn_okD W.F_combined sc_combined rfl rfl fun cdv A outer s H E hr => (have hN := sc_combined.nd; (sss_cons (ss_set (sa_lst (sas_cons (sa_tup sas_nil) sas_nil)) hN) (sss_cons (ss_for PassesOwn.never rfl (si_seq sa_var) (sg_name hN) (sss_cons (ss_setLc2 (vs1 := [4]) rfl hN (si_seq sa_var) (blk_of (own := [("row", 3), ("thing", 4)]) (by kernel_rfl)) rfl (fun _ _ _ _ _ => (sg_name hN)) (fun _ _ _ _ _ => sts_nil) (fun _ _ _ _ _ => (si_seq sa_var)) (fun _ _ _ _ _ => (sg_name hN)) (fun _ _ _ _ _ => sts_nil) (fun _ _ _ _ _ => (sa_bin op_addAll s_add sa_var (sa_tup (sas_cons sa_var sas_nil))))) sss_nil)) (sss_cons (ss_ret (sa_callTy call_tuple_ofF s_tuple W.n_tuple (by decide +kernel) (sas_cons sa_var sas_nil))) sss_nil))) : SSs _ _ m_combined)
theorem sc_rows_of : FnScope ["box"] ["box"] (defScope (top 5)) := ⟨rfl, rfl, rfl, by decide +kernel, rfl, by decide +kernel, by decide +kernel⟩
theorem ok_rows_of (W : Fx K mg) : FnOkG P w K mg base CX0 2 W.a_rows_of W.d_rows_of ["box"] (spD K 1 c_rows_of) :=
  fn_okD W.F_rows_of sc_rows_of rfl rfl fun cdv A outer s H E hr => (have hN := sc_rows_of.nd; (sss_cons (ss_ret (sa_call (ok_combined W) (hr.mono (by decide)) W.g_combined W.F_combined.kp W.b_combined (sas_cons sa_var sas_nil))) sss_nil) : SSs _ _ m_rows_of)
theorem sc_narrowed : FnScope ["box", "person", "kinds"] ["box", "person", "kinds"] (defScope (top 6)) := ⟨rfl, rfl, rfl, by decide +kernel, rfl, by decide +kernel, by decide +kernel⟩
theorem ok_narrowed (W : Fx K mg) : FnOkG P w K mg base CX0 1 W.a_narrowed W.d_narrowed ["box", "person", "kinds"] (spD K 3 c_narrowed) :=
  fn_okD W.F_narrowed sc_narrowed rfl rfl fun cdv A outer s H E hr => (have hN := sc_narrowed.nd; (sss_cons (ss_ret (sa_bin op_addAll s_add (sa_bin op_addAll s_add (sa_slice sa_var spo_none (spo_some sa_var)) (sa_tup (sas_cons (sa_callTy call_tuple_ofF s_tuple W.n_tuple (by decide +kernel) (sas_cons sa_var sas_nil)) sas_nil))) (sa_slice sa_var (spo_some (sa_bin op_addAll s_add sa_var sa_int)) spo_none))) sss_nil) : SSs _ _ m_narrowed)
theorem sc_row_number : FnScope ["house", "row", "place", "person"] ["house", "row"] (defScope (top 7)) := ⟨rfl, rfl, rfl, by decide +kernel, rfl, by decide +kernel, by decide +kernel⟩
theorem ok_row_number (W : Fx K mg) : FnOkG P w K mg base CX0 2 W.a_row_number W.d_row_number ["house", "row"] (spD K 2 c_row_number) :=
  fn_okD W.F_row_number sc_row_number rfl rfl fun cdv A outer s H E hr => (have hN := sc_row_number.nd; (sss_cons (ss_set sa_int hN) (sss_cons (ss_for PassesOwn.never rfl (si_range1 W.n_range (sa_call (ok_count_of W) (hr.mono (by decide)) W.g_count_of W.F_count_of.kp W.b_count_of (sas_cons sa_var sas_nil))) (sg_name hN) (sss_cons (ss_set (sa_bin op_addAll s_add (sa_bin op_mulAll s_mul sa_var (sa_callB call_lenAll s_len W.n_len (by decide +kernel) (sas_cons (sa_call (ok_kinds_of W) (hr.mono (by decide)) W.g_kinds_of W.F_kinds_of.kp W.b_kinds_of (sas_cons sa_var (sas_cons sa_var sas_nil))) sas_nil))) (sa_ix (u1 hr) sa_var sa_var)) hN) sss_nil)) (sss_cons (ss_ret sa_var) sss_nil))) : SSs _ _ m_row_number)
theorem sc_end_of : FnScope ["house", "row"] ["house", "row"] (defScope (top 8)) := ⟨rfl, rfl, rfl, by decide +kernel, rfl, by decide +kernel, by decide +kernel⟩
theorem ok_end_of (W : Fx K mg) : FnOkG P w K mg base CX0 3 W.a_end_of W.d_end_of ["house", "row"] (spD K 2 c_end_of) :=
  fn_okD W.F_end_of sc_end_of rfl rfl fun cdv A outer s H E hr => (have hN := sc_end_of.nd; (sss_cons (ss_ret (sa_ix (u1 hr) (sa_ix (u1 hr) sa_var sa_int) (sa_call (ok_row_number W) (hr.mono (by decide)) W.g_row_number W.F_row_number.kp W.b_row_number (sas_cons sa_var (sas_cons sa_var sas_nil))))) sss_nil) : SSs _ _ m_end_of)
theorem sc_worths_of : FnScope ["house", "person", "kind"] ["house", "person", "kind"] (defScope (top 10)) := ⟨rfl, rfl, rfl, by decide +kernel, rfl, by decide +kernel, by decide +kernel⟩
theorem ok_worths_of (W : Fx K mg) : FnOkG P w K mg base CX0 2 W.a_worths_of W.d_worths_of ["house", "person", "kind"] (spD K 3 c_worths_of) :=
  fn_okD W.F_worths_of sc_worths_of rfl rfl fun cdv A outer s H E hr => (have hN := sc_worths_of.nd; (sss_cons (ss_ret (sa_ix (u1 hr) (sa_ix (u1 hr) (sa_call (ok_kinds_of W) (hr.mono (by decide)) W.g_kinds_of W.F_kinds_of.kp W.b_kinds_of (sas_cons sa_var (sas_cons sa_var sas_nil))) sa_var) sa_int)) sss_nil) : SSs _ _ m_worths_of)
theorem sc_row_worths : FnScope ["house", "person", "kind", "worth"] ["house", "person", "kind", "worth"] (defScope (top 11)) := ⟨rfl, rfl, rfl, by decide +kernel, rfl, by decide +kernel, by decide +kernel⟩
theorem ok_row_worths (W : Fx K mg) : FnOkG P w K mg base CX0 3 W.a_row_worths W.d_row_worths ["house", "person", "kind", "worth"] (spD K 4 c_row_worths) :=
  fn_okD W.F_row_worths sc_row_worths rfl rfl fun cdv A outer s H E hr => (have hN := sc_row_worths.nd; (sss_cons (ss_ret (sa_ix (u1 hr) (sa_call (ok_worths_of W) (hr.mono (by decide)) W.g_worths_of W.F_worths_of.kp W.b_worths_of (sas_cons sa_var (sas_cons sa_var (sas_cons sa_var sas_nil)))) sa_var)) sss_nil) : SSs _ _ m_row_worths)
theorem sc_payment_of : FnScope ["person", "end"] ["person", "end"] (defScope (top 12)) := ⟨rfl, rfl, rfl, by decide +kernel, rfl, by decide +kernel, by decide +kernel⟩
theorem ok_payment_of (W : Fx K mg) : FnOkG P w K mg base CX0 1 W.a_payment_of W.d_payment_of ["person", "end"] (spD K 2 c_payment_of) :=
  fn_okD W.F_payment_of sc_payment_of rfl rfl fun cdv A outer s H E hr => (have hN := sc_payment_of.nd; (sss_cons (ss_ret (sa_ix (u1 hr) (sa_ix (u1 hr) sa_var sa_int) sa_var)) sss_nil) : SSs _ _ m_payment_of)
theorem sc_value_by : FnScope ["numbers", "person", "end"] ["numbers", "person", "end"] (defScope (top 13)) := ⟨rfl, rfl, rfl, by decide +kernel, rfl, by decide +kernel, by decide +kernel⟩
theorem ok_value_by (W : Fx K mg) : FnOkG P w K mg base CX0 2 W.a_value_by W.d_value_by ["numbers", "person", "end"] (spD K 3 c_value_by) :=
  fn_okD W.F_value_by sc_value_by rfl rfl fun cdv A outer s H E hr => (have hN := sc_value_by.nd; (sss_cons (ss_ret (sa_bin op_sub s_sub (sa_ix (u1 hr) sa_var (sa_ix (u1 hr) sa_var sa_int)) (sa_call (ok_payment_of W) (hr.mono (by decide)) W.g_payment_of W.F_payment_of.kp W.b_payment_of (sas_cons sa_var (sas_cons sa_var sas_nil))))) sss_nil) : SSs _ _ m_value_by)
theorem sc_value_of : FnScope ["house", "person", "kind", "worth", "end"] ["house", "person", "kind", "worth", "end"] (defScope (top 14)) := ⟨rfl, rfl, rfl, by decide +kernel, rfl, by decide +kernel, by decide +kernel⟩
theorem ok_value_of (W : Fx K mg) : FnOkG P w K mg base CX0 4 W.a_value_of W.d_value_of ["house", "person", "kind", "worth", "end"] (spD K 5 c_value_of) :=
  fn_okD W.F_value_of sc_value_of rfl rfl fun cdv A outer s H E hr => (have hN := sc_value_of.nd; (sss_cons (ss_ret (sa_call (ok_value_by W) (hr.mono (by decide)) W.g_value_by W.F_value_by.kp W.b_value_by (sas_cons (sa_call (ok_row_worths W) (hr.mono (by decide)) W.g_row_worths W.F_row_worths.kp W.b_row_worths (sas_cons sa_var (sas_cons sa_var (sas_cons sa_var (sas_cons sa_var sas_nil))))) (sas_cons sa_var (sas_cons sa_var sas_nil))))) sss_nil) : SSs _ _ m_value_of)
theorem sc_case_box : FnScope ["house", "box", "person", "case", "watched", "found", "at"] ["house", "box", "person", "case"] (defScope (top 16)) := ⟨rfl, rfl, rfl, by decide +kernel, rfl, by decide +kernel, by decide +kernel⟩
theorem ok_case_box (W : Fx K mg) : FnOkG P w K mg base CX0 2 W.a_case_box W.d_case_box ["house", "box", "person", "case"] (spD K 4 c_case_box) :=
  fn_okD W.F_case_box sc_case_box rfl rfl fun cdv A outer s H E hr => (have hN := sc_case_box.nd; (sss_cons (ss_set (sa_call (ok_watches_of W) (hr.mono (by decide)) W.g_watches_of W.F_watches_of.kp W.b_watches_of (sas_cons sa_var (sas_cons sa_var sas_nil))) hN) (sss_cons (ss_set sa_var hN) (sss_cons (ss_for PassesOwn.never rfl (si_range1 W.n_range (sa_callB call_lenAll s_len W.n_len (by decide +kernel) (sas_cons sa_var sas_nil))) (sg_name hN) (sss_cons (ss_set (sa_call (ok_narrowed W) (hr.mono (by decide)) W.g_narrowed W.F_narrowed.kp W.b_narrowed (sas_cons sa_var (sas_cons (sa_ix (u1 hr) sa_var sa_var) (sas_cons (sa_tup (sas_cons (sa_ix (u1 hr) sa_var sa_var) sas_nil)) sas_nil)))) hN) sss_nil)) (sss_cons (ss_ret sa_var) sss_nil)))) : SSs _ _ m_case_box)
theorem sc_rows_saying : FnScope ["house", "box", "person", "case", "word"] ["house", "box", "person", "case", "word"] (defScope (top 17)) := ⟨rfl, rfl, rfl, by decide +kernel, rfl, by decide +kernel, by decide +kernel⟩
theorem ok_rows_saying (W : Fx K mg) : FnOkG P w K mg base CX0 3 W.a_rows_saying W.d_rows_saying ["house", "box", "person", "case", "word"] (spD K 5 c_rows_saying) :=
  fn_okD W.F_rows_saying sc_rows_saying rfl rfl fun cdv A outer s H E hr => (have hN := sc_rows_saying.nd; (sss_cons (ss_ret (sa_call (ok_rows_of W) (hr.mono (by decide)) W.g_rows_of W.F_rows_of.kp W.b_rows_of (sas_cons (sa_call (ok_narrowed W) (hr.mono (by decide)) W.g_narrowed W.F_narrowed.kp W.b_narrowed (sas_cons (sa_call (ok_case_box W) (hr.mono (by decide)) W.g_case_box W.F_case_box.kp W.b_case_box (sas_cons sa_var (sas_cons sa_var (sas_cons sa_var (sas_cons sa_var sas_nil))))) (sas_cons sa_var (sas_cons (sa_tup (sas_cons sa_var sas_nil)) sas_nil)))) sas_nil))) sss_nil) : SSs _ _ m_rows_saying)
theorem sc_valued_rows : FnScope ["house", "rows", "person", "kind", "worth", "row"] ["house", "rows", "person", "kind", "worth"] (defScope (top 18)) := ⟨rfl, rfl, rfl, by decide +kernel, rfl, by decide +kernel, by decide +kernel⟩
theorem ok_valued_rows (W : Fx K mg) : FnOkG P w K mg base CX0 5 W.a_valued_rows W.d_valued_rows ["house", "rows", "person", "kind", "worth"] (spD K 5 c_valued_rows) :=
  fn_okD W.F_valued_rows sc_valued_rows rfl rfl fun cdv A outer s H E hr => (have hN := sc_valued_rows.nd; (sss_cons (ss_ret (sa_lc rfl hN (si_seq sa_var) (blk_of (own := [("row", 5)]) (by kernel_rfl)) rfl (fun _ _ _ _ _ => (sg_name hN)) (fun _ _ _ _ _ => sts_nil) (fun _ _ _ _ _ => (sa_tup (sas_cons (sa_call (ok_value_of W) (hr.mono (by decide)) W.g_value_of W.F_value_of.kp W.b_value_of (sas_cons sa_var (sas_cons sa_var (sas_cons sa_var (sas_cons sa_var (sas_cons (sa_call (ok_end_of W) (hr.mono (by decide)) W.g_end_of W.F_end_of.kp W.b_end_of (sas_cons sa_var (sas_cons sa_var sas_nil))) sas_nil)))))) (sas_cons sa_var sas_nil)))))) sss_nil) : SSs _ _ m_valued_rows)
theorem sc_first_least : FnScope ["pairs", "found", "pair"] ["pairs"] (defScope (top 19)) := ⟨rfl, rfl, rfl, by decide +kernel, rfl, by decide +kernel, by decide +kernel⟩
theorem ok_first_least (W : Fx K mg) : FnOkG P w K mg base CX0 1 W.a_first_least W.d_first_least ["pairs"] (spD K 1 c_first_least) :=
  fn_okD W.F_first_least sc_first_least rfl rfl fun cdv A outer s H E hr => (have hN := sc_first_least.nd; (sss_cons (ss_set (sa_ix (u1 hr) sa_var sa_int) hN) (sss_cons (ss_for PassesOwn.never rfl (si_seq sa_var) (sg_name hN) (sss_cons (ss_if (st_cmp op_lt s_cmp (nomark _) (sa_ix (u1 hr) sa_var sa_int) (sa_ix (u1 hr) sa_var sa_int) bl_cmp) (sss_cons (ss_set sa_var hN) sss_nil) sss_nil) sss_nil)) (sss_cons (ss_ret sa_var) sss_nil))) : SSs _ _ m_first_least)
theorem sc_first_greatest : FnScope ["pairs", "found", "pair"] ["pairs"] (defScope (top 20)) := ⟨rfl, rfl, rfl, by decide +kernel, rfl, by decide +kernel, by decide +kernel⟩
theorem ok_first_greatest (W : Fx K mg) : FnOkG P w K mg base CX0 1 W.a_first_greatest W.d_first_greatest ["pairs"] (spD K 1 c_first_greatest) :=
  fn_okD W.F_first_greatest sc_first_greatest rfl rfl fun cdv A outer s H E hr => (have hN := sc_first_greatest.nd; (sss_cons (ss_set (sa_ix (u1 hr) sa_var sa_int) hN) (sss_cons (ss_for PassesOwn.never rfl (si_seq sa_var) (sg_name hN) (sss_cons (ss_if (st_cmp op_gt s_cmp (nomark _) (sa_ix (u1 hr) sa_var sa_int) (sa_ix (u1 hr) sa_var sa_int) bl_cmp) (sss_cons (ss_set sa_var hN) sss_nil) sss_nil) sss_nil)) (sss_cons (ss_ret sa_var) sss_nil))) : SSs _ _ m_first_greatest)
theorem sc_worst_truth : FnScope ["house", "box", "person", "kind", "worth", "case", "rows"] ["house", "box", "person", "kind", "worth", "case"] (defScope (top 21)) := ⟨rfl, rfl, rfl, by decide +kernel, rfl, by decide +kernel, by decide +kernel⟩
theorem ok_worst_truth (W : Fx K mg) : FnOkG P w K mg base CX0 6 W.a_worst_truth W.d_worst_truth ["house", "box", "person", "kind", "worth", "case"] (spD K 6 c_worst_truth) :=
  fn_okD W.F_worst_truth sc_worst_truth rfl rfl fun cdv A outer s H E hr => (have hN := sc_worst_truth.nd; (sss_cons (ss_set (sa_call (ok_rows_saying W) (hr.mono (by decide)) W.g_rows_saying W.F_rows_saying.kp W.b_rows_saying (sas_cons sa_var (sas_cons sa_var (sas_cons sa_var (sas_cons sa_var (sas_cons sa_var sas_nil)))))) hN) (sss_cons (ss_ret (sa_call (ok_first_least W) (hr.mono (by decide)) W.g_first_least W.F_first_least.kp W.b_first_least (sas_cons (sa_call (ok_valued_rows W) (hr.mono (by decide)) W.g_valued_rows W.F_valued_rows.kp W.b_valued_rows (sas_cons sa_var (sas_cons sa_var (sas_cons sa_var (sas_cons sa_var (sas_cons sa_var sas_nil)))))) sas_nil))) sss_nil)) : SSs _ _ m_worst_truth)
theorem sc_best_lie : FnScope ["house", "box", "person", "kind", "other", "worth", "case", "rows"] ["house", "box", "person", "kind", "other", "worth", "case"] (defScope (top 22)) := ⟨rfl, rfl, rfl, by decide +kernel, rfl, by decide +kernel, by decide +kernel⟩
theorem ok_best_lie (W : Fx K mg) : FnOkG P w K mg base CX0 6 W.a_best_lie W.d_best_lie ["house", "box", "person", "kind", "other", "worth", "case"] (spD K 7 c_best_lie) :=
  fn_okD W.F_best_lie sc_best_lie rfl rfl fun cdv A outer s H E hr => (have hN := sc_best_lie.nd; (sss_cons (ss_set (sa_call (ok_rows_saying W) (hr.mono (by decide)) W.g_rows_saying W.F_rows_saying.kp W.b_rows_saying (sas_cons sa_var (sas_cons sa_var (sas_cons sa_var (sas_cons sa_var (sas_cons sa_var sas_nil)))))) hN) (sss_cons (ss_ret (sa_call (ok_first_greatest W) (hr.mono (by decide)) W.g_first_greatest W.F_first_greatest.kp W.b_first_greatest (sas_cons (sa_call (ok_valued_rows W) (hr.mono (by decide)) W.g_valued_rows W.F_valued_rows.kp W.b_valued_rows (sas_cons sa_var (sas_cons sa_var (sas_cons sa_var (sas_cons sa_var (sas_cons sa_var sas_nil)))))) sas_nil))) sss_nil)) : SSs _ _ m_best_lie)
theorem sc__law_begin : FnScope ["script", "cell"] ["script"] (defScope (top 24)) := ⟨rfl, rfl, rfl, by decide +kernel, rfl, by decide +kernel, by decide +kernel⟩
theorem ok__law_begin (W : Fx K mg) : FnOkG P w K mg base CX0 1 W.a__law_begin W.d__law_begin ["script"] (spD K 1 c__law_begin) :=
  fn_okD W.F__law_begin sc__law_begin rfl rfl fun cdv A outer s H E hr => (have hN := sc__law_begin.nd; (sss_cons (ss_ret (sa_lst (sas_cons (sa_lc rfl hN (si_seq sa_var) (blk_of (own := [("cell", 1)]) (by kernel_rfl)) rfl (fun _ _ _ _ _ => (sg_name hN)) (fun _ _ _ _ _ => sts_nil) (fun _ _ _ _ _ => (sa_callTy call_int1 s_int W.n_int (by decide +kernel) (sas_cons sa_var sas_nil)))) (sas_cons sa_int (sas_cons sa_int (sas_cons sa_int sas_nil)))))) sss_nil) : SSs _ _ m__law_begin)
theorem sc__law_draw : FnScope ["d", "many", "found", "size", "cell"] ["d", "many"] (defScope (top 25)) := ⟨rfl, rfl, rfl, by decide +kernel, rfl, by decide +kernel, by decide +kernel⟩
theorem ok__law_draw (W : Fx K mg) : FnOkG P w K mg base CX0 1 W.a__law_draw W.d__law_draw ["d", "many"] (spD K 2 c__law_draw) :=
  fn_okD W.F__law_draw sc__law_draw rfl rfl fun cdv A outer s H E hr => (have hN := sc__law_draw.nd; (sss_cons (ss_if (st_cmp op_gt s_cmp (nomark _) (sa_ix (u1 hr) sa_var sa_int) sa_int bl_cmp) (sss_cons (ss_set (sa_ix (u1 hr) sa_var sa_int) hN) (sss_cons (ss_setIxL (by rfl) (by first | exact Or.inl rfl | exact Or.inr (Or.inl rfl) | exact Or.inr (Or.inr rfl)) (by decide) (by decide) (sa_bin op_fdiv s_div sa_var sa_var) sa_int (by rfl) (by rfl) (by intros; rfl) (by rfl)) (sss_cons (ss_ret (sa_bin op_mod s_mod (sa_callTy call_int1 s_int W.n_int (by decide +kernel) (sas_cons sa_var sas_nil)) sa_var)) sss_nil))) sss_nil) (sss_cons (ss_set sa_int hN) (sss_cons (ss_if (st_cmp op_lt s_cmp (nomark _) (sa_ix (u1 hr) sa_var sa_int) (sa_callB call_lenAll s_len W.n_len (by decide +kernel) (sas_cons (sa_ix (u1 hr) sa_var sa_int) sas_nil)) bl_cmp) (sss_cons (ss_set (sa_ix (u1 hr) (sa_ix (u1 hr) sa_var sa_int) (sa_ix (u1 hr) sa_var sa_int)) hN) (sss_cons (ss_set (sa_bin op_addAll s_add (sa_bin op_mulAll s_mul sa_int (sa_callB call_abs s_abs W.n_abs (by decide +kernel) (sas_cons sa_var sas_nil))) (sa_callTy call_int1 s_int W.n_int (by decide +kernel) (sas_cons (sa_cmp op_lt s_cmp (nomark _) sa_var sa_int) sas_nil))) hN) sss_nil)) sss_nil) (sss_cons (ss_augIx iop_addAll s_iadd sa_int sa_int) (sss_cons (ss_if (st_cmp op_ge s_cmp (nomark _) sa_var (sa_bin op_mulAll s_mul sa_int (sa_bin op_pow s_pow sa_int sa_int)) bl_cmp) (sss_cons (ss_set (sa_bin op_mod s_mod (sa_callTy call_int1 s_int W.n_int (by decide +kernel) (sas_cons (sa_bin op_fdiv s_div sa_var sa_int) sas_nil)) (sa_bin op_shl s_shl sa_int sa_int)) hN) (sss_cons (ss_setIxL (by rfl) (by first | exact Or.inl rfl | exact Or.inr (Or.inl rfl) | exact Or.inr (Or.inr rfl)) (by decide) (by decide) (sa_bin op_fdiv s_div sa_var sa_var) sa_int (by rfl) (by rfl) (by intros; rfl) (by rfl)) (sss_cons (ss_ret (sa_bin op_mod s_mod (sa_callTy call_int1 s_int W.n_int (by decide +kernel) (sas_cons sa_var sas_nil)) sa_var)) sss_nil))) sss_nil) (sss_cons (ss_setIxL (by rfl) (by first | exact Or.inl rfl | exact Or.inr (Or.inl rfl) | exact Or.inr (Or.inr rfl)) (by decide) (by decide) (sa_bin op_mod s_mod (sa_callTy call_int1 s_int W.n_int (by decide +kernel) (sas_cons (sa_bin op_addAll s_add (sa_bin op_addAll s_add (sa_bin op_addAll s_add (sa_bin op_mulAll s_mul (sa_ix (u1 hr) sa_var sa_int) sa_int) (sa_bin op_mulAll s_mul (sa_bin op_mod s_mod (sa_callTy call_int1 s_int W.n_int (by decide +kernel) (sas_cons sa_var sas_nil)) sa_int) sa_int)) (sa_bin op_mulAll s_mul (sa_ix (u1 hr) sa_var sa_int) sa_int)) sa_int) sas_nil)) sa_int) sa_int (by rfl) (by rfl) (by intros; rfl) (by rfl)) (sss_cons (ss_ret (sa_bin op_mod s_mod (sa_callTy call_int1 s_int W.n_int (by decide +kernel) (sas_cons (sa_bin op_fdiv s_div (sa_ix (u1 hr) sa_var sa_int) sa_int) sas_nil)) sa_var)) sss_nil))))))) : SSs _ _ m__law_draw)
theorem sc__law_pick : FnScope ["d", "row"] ["d", "row"] (defScope (top 26)) := ⟨rfl, rfl, rfl, by decide +kernel, rfl, by decide +kernel, by decide +kernel⟩
theorem ok__law_pick (W : Fx K mg) : FnOkG P w K mg base CX0 2 W.a__law_pick W.d__law_pick ["d", "row"] (spD K 2 c__law_pick) :=
  fn_okD W.F__law_pick sc__law_pick rfl rfl fun cdv A outer s H E hr => (have hN := sc__law_pick.nd; (sss_cons (ss_ret (sa_ix (u1 hr) sa_var (sa_call (ok__law_draw W) (hr.mono (by decide)) W.g__law_draw W.F__law_draw.kp W.b__law_draw (sas_cons sa_var (sas_cons (sa_callB call_lenAll s_len W.n_len (by decide +kernel) (sas_cons sa_var sas_nil)) sas_nil))))) sss_nil) : SSs _ _ m__law_pick)
theorem sc__law_pop : FnScope ["d", "row"] ["d", "row"] (defScope (top 27)) := ⟨rfl, rfl, rfl, by decide +kernel, rfl, by decide +kernel, by decide +kernel⟩
theorem ok__law_pop (W : Fx K mg) : FnOkG P w K mg base CX0 2 W.a__law_pop W.d__law_pop ["d", "row"] (spD K 2 c__law_pop) :=
  fn_okD W.F__law_pop sc__law_pop rfl rfl fun cdv A outer s H E hr => (have hN := sc__law_pop.nd; (sss_cons (ss_ret (sa_meth PySem.F.slot_list_pop PySem.F.type_list_pop mt_popAt s_pop1 (sas_cons (sa_call (ok__law_draw W) (hr.mono (by decide)) W.g__law_draw W.F__law_draw.kp W.b__law_draw (sas_cons sa_var (sas_cons (sa_callB call_lenAll s_len W.n_len (by decide +kernel) (sas_cons sa_var sas_nil)) sas_nil))) sas_nil))) sss_nil) : SSs _ _ m__law_pop)
theorem sc__law_shuffled : FnScope ["d", "row", "left", "found", "k"] ["d", "row"] (defScope (top 28)) := ⟨rfl, rfl, rfl, by decide +kernel, rfl, by decide +kernel, by decide +kernel⟩
theorem ok__law_shuffled (W : Fx K mg) : FnOkG P w K mg base CX0 2 W.a__law_shuffled W.d__law_shuffled ["d", "row"] (spD K 2 c__law_shuffled) :=
  fn_okD W.F__law_shuffled sc__law_shuffled rfl rfl fun cdv A outer s H E hr => (have hN := sc__law_shuffled.nd; (sss_cons (ss_set (sa_callTy call_list_of s_list W.n_list (by decide +kernel) (sas_cons sa_var sas_nil)) hN) (sss_cons (ss_set (sa_lst sas_nil) hN) (sss_cons (ss_for PassesOwn.never rfl (si_range1 W.n_range (sa_callB call_lenAll s_len W.n_len (by decide +kernel) (sas_cons sa_var sas_nil))) (sg_name hN) (sss_cons (ss_expr (sa_meth PySem.F.slot_list_append PySem.F.type_list_append mt_append s_append (sas_cons (sa_meth PySem.F.slot_list_pop PySem.F.type_list_pop mt_popAt s_pop1 (sas_cons (sa_call (ok__law_draw W) (hr.mono (by decide)) W.g__law_draw W.F__law_draw.kp W.b__law_draw (sas_cons sa_var (sas_cons (sa_callB call_lenAll s_len W.n_len (by decide +kernel) (sas_cons sa_var sas_nil)) sas_nil))) sas_nil)) sas_nil))) sss_nil)) (sss_cons (ss_ret sa_var) sss_nil)))) : SSs _ _ m__law_shuffled)
theorem sc__law_pool : FnScope ["text"] [] (defScope (top 29)) := ⟨rfl, rfl, rfl, by decide +kernel, rfl, by decide +kernel, by decide +kernel⟩
theorem ok__law_pool (W : Fx K mg) : FnOkG P w K mg base CX0 1 W.a__law_pool W.d__law_pool [] (spD K 0 c__law_pool) :=
  fn_okD W.F__law_pool sc__law_pool rfl rfl fun cdv A outer s H E hr => (have hN := sc__law_pool.nd; (sss_cons (ss_set sa_str hN) (sss_cons (ss_set (sa_bin op_addAll s_add sa_var sa_str) hN) (sss_cons (ss_ret (sa_str1 PySem.F.slot_str_split PySem.F.type_str_split mt_split s_split (sa_bin op_addAll s_add sa_var sa_str) sa_str)) sss_nil))) : SSs _ _ m__law_pool)
theorem sc__law_number : FnScope ["d"] ["d"] (defScope (top 30)) := ⟨rfl, rfl, rfl, by decide +kernel, rfl, by decide +kernel, by decide +kernel⟩
theorem ok__law_number (W : Fx K mg) : FnOkG P w K mg base CX0 2 W.a__law_number W.d__law_number ["d"] (spD K 1 c__law_number) :=
  fn_okD W.F__law_number sc__law_number rfl rfl fun cdv A outer s H E hr => (have hN := sc__law_number.nd; (sss_cons (ss_if (st_cmp (op_eqD (u64 hr)) s_eq (nomark _) (sa_call (ok__law_draw W) (hr.mono (by decide)) W.g__law_draw W.F__law_draw.kp W.b__law_draw (sas_cons sa_var (sas_cons sa_int sas_nil))) sa_int bl_eq) (sss_cons (ss_ret (sa_bin op_mulAll s_mul (sa_bin op_sub s_sub (sa_call (ok__law_draw W) (hr.mono (by decide)) W.g__law_draw W.F__law_draw.kp W.b__law_draw (sas_cons sa_var (sas_cons sa_int sas_nil))) sa_int) sa_int)) sss_nil) sss_nil) (sss_cons (ss_ret (sa_bin op_sub s_sub (sa_call (ok__law_draw W) (hr.mono (by decide)) W.g__law_draw W.F__law_draw.kp W.b__law_draw (sas_cons sa_var (sas_cons sa_int sas_nil))) sa_int)) sss_nil)) : SSs _ _ m__law_number)
theorem sc__law_sizes : FnScope ["d", "limit", "menu", "found", "sizes", "rows", "many"] ["d", "limit"] (defScope (top 31)) := ⟨rfl, rfl, rfl, by decide +kernel, rfl, by decide +kernel, by decide +kernel⟩
theorem ok__law_sizes (W : Fx K mg) : FnOkG P w K mg base CX0 3 W.a__law_sizes W.d__law_sizes ["d", "limit"] (spD K 2 c__law_sizes) :=
  fn_okD W.F__law_sizes sc__law_sizes rfl rfl fun cdv A outer s H E hr => (have hN := sc__law_sizes.nd; (sss_cons (ss_set (sa_lst (sas_cons (sa_tup (sas_cons sa_int (sas_cons sa_int sas_nil))) (sas_cons (sa_tup (sas_cons sa_int (sas_cons sa_int sas_nil))) (sas_cons (sa_tup (sas_cons sa_int (sas_cons sa_int (sas_cons sa_int sas_nil)))) (sas_cons (sa_tup (sas_cons sa_int (sas_cons sa_int sas_nil))) (sas_cons (sa_tup (sas_cons sa_int (sas_cons sa_int sas_nil))) (sas_cons (sa_tup (sas_cons sa_int (sas_cons sa_int sas_nil))) (sas_cons (sa_tup (sas_cons sa_int (sas_cons sa_int (sas_cons sa_int sas_nil)))) (sas_cons (sa_tup (sas_cons sa_int (sas_cons sa_int sas_nil))) (sas_cons (sa_tup (sas_cons sa_int sas_nil)) (sas_cons (sa_tup (sas_cons sa_int (sas_cons sa_int (sas_cons sa_int sas_nil)))) (sas_cons (sa_tup (sas_cons sa_int sas_nil)) (sas_cons (sa_tup (sas_cons sa_int (sas_cons sa_int sas_nil))) sas_nil))))))))))))) hN) (sss_cons (ss_set (sa_bin op_addAll s_add sa_var (sa_lst (sas_cons (sa_tup (sas_cons sa_int (sas_cons sa_int sas_nil))) (sas_cons (sa_tup (sas_cons sa_int (sas_cons sa_int (sas_cons sa_int sas_nil)))) (sas_cons (sa_tup (sas_cons sa_int (sas_cons sa_int sas_nil))) (sas_cons (sa_tup (sas_cons sa_int (sas_cons sa_int (sas_cons sa_int (sas_cons sa_int sas_nil))))) (sas_cons (sa_tup (sas_cons sa_int (sas_cons sa_int sas_nil))) (sas_cons (sa_tup (sas_cons sa_int (sas_cons sa_int (sas_cons sa_int sas_nil)))) (sas_cons (sa_tup (sas_cons sa_int (sas_cons sa_int sas_nil))) (sas_cons (sa_tup (sas_cons sa_int (sas_cons sa_int sas_nil))) (sas_cons (sa_tup (sas_cons sa_int (sas_cons sa_int (sas_cons sa_int (sas_cons sa_int sas_nil))))) sas_nil))))))))))) hN) (sss_cons (ss_set (sa_bin op_addAll s_add sa_var (sa_lst (sas_cons (sa_tup (sas_cons sa_int (sas_cons sa_int (sas_cons sa_int sas_nil)))) (sas_cons (sa_tup (sas_cons sa_int (sas_cons sa_int (sas_cons sa_int sas_nil)))) (sas_cons (sa_tup (sas_cons sa_int (sas_cons sa_int sas_nil))) (sas_cons (sa_tup (sas_cons sa_int (sas_cons sa_int (sas_cons sa_int sas_nil)))) (sas_cons (sa_tup (sas_cons sa_int (sas_cons sa_int sas_nil))) (sas_cons (sa_tup (sas_cons sa_int (sas_cons sa_int (sas_cons sa_int (sas_cons sa_int sas_nil))))) (sas_cons (sa_tup (sas_cons sa_int (sas_cons sa_int sas_nil))) (sas_cons (sa_tup (sas_cons sa_int (sas_cons sa_int (sas_cons sa_int sas_nil)))) (sas_cons (sa_tup (sas_cons sa_int (sas_cons sa_int sas_nil))) (sas_cons (sa_tup (sas_cons sa_int (sas_cons sa_int (sas_cons sa_int sas_nil)))) sas_nil)))))))))))) hN) (sss_cons (ss_set (sa_lst sas_nil) hN) (sss_cons (ss_for PassesOwn.never rfl (si_seq sa_var) (sg_name hN) (sss_cons (ss_set sa_int hN) (sss_cons (ss_for PassesOwn.never rfl (si_seq sa_var) (sg_name hN) (sss_cons (ss_set (sa_bin op_mulAll s_mul sa_var sa_var) hN) sss_nil)) (sss_cons (ss_if (st_cmp op_le s_cmp (nomark _) sa_var sa_var bl_cmp) (sss_cons (ss_expr (sa_meth PySem.F.slot_list_append PySem.F.type_list_append mt_append s_append (sas_cons sa_var sas_nil))) sss_nil) sss_nil) sss_nil)))) (sss_cons (ss_ret (sa_call (ok__law_pick W) (hr.mono (by decide)) W.g__law_pick W.F__law_pick.kp W.b__law_pick (sas_cons sa_var (sas_cons sa_var sas_nil)))) sss_nil)))))) : SSs _ _ m__law_sizes)
theorem sc__law_rows : FnScope ["box", "rows", "share", "longer", "row", "kind"] ["box"] (defScope (top 32)) := ⟨rfl, rfl, rfl, by decide +kernel, rfl, by decide +kernel, by decide +kernel⟩
theorem ok__law_rows (W : Fx K mg) : FnOkG P w K mg base CX0 1 W.a__law_rows W.d__law_rows ["box"] (spD K 1 c__law_rows) :=
  fn_okD W.F__law_rows sc__law_rows rfl rfl fun cdv A outer s H E hr => (have hN := sc__law_rows.nd; (sss_cons (ss_set (sa_lst (sas_cons (sa_tup sas_nil) sas_nil)) hN) (sss_cons (ss_for PassesOwn.never rfl (si_seq sa_var) (sg_name hN) (sss_cons (ss_set (sa_lst sas_nil) hN) (sss_cons (ss_for PassesOwn.never rfl (si_seq sa_var) (sg_name hN) (sss_cons (ss_expr (sa_meth PySem.F.slot_list_extend PySem.F.type_list_extend mt_extend s_extend (sas_cons (sa_lc rfl hN (si_seq sa_var) (blk_of (own := [("kind", 5)]) (by kernel_rfl)) rfl (fun _ _ _ _ _ => (sg_name hN)) (fun _ _ _ _ _ => sts_nil) (fun _ _ _ _ _ => (sa_bin op_addAll s_add sa_var (sa_tup (sas_cons sa_var sas_nil))))) sas_nil))) sss_nil)) (sss_cons (ss_set sa_var hN) sss_nil)))) (sss_cons (ss_ret sa_var) sss_nil))) : SSs _ _ m__law_rows)
theorem sc__law_watching : FnScope ["d", "person", "many", "other"] ["d", "person", "many"] (defScope (top 33)) := ⟨rfl, rfl, rfl, by decide +kernel, rfl, by decide +kernel, by decide +kernel⟩
theorem ok__law_watching (W : Fx K mg) : FnOkG P w K mg base CX0 2 W.a__law_watching W.d__law_watching ["d", "person", "many"] (spD K 3 c__law_watching) :=
  fn_okD W.F__law_watching sc__law_watching rfl rfl fun cdv A outer s H E hr => (have hN := sc__law_watching.nd; (sss_cons (ss_if (st_cmp (op_neD (u64 hr)) s_ne (nomark _) (sa_call (ok__law_draw W) (hr.mono (by decide)) W.g__law_draw W.F__law_draw.kp W.b__law_draw (sas_cons sa_var (sas_cons sa_int sas_nil))) sa_int bl_ne) (sss_cons (ss_ret (sa_tup sas_nil)) sss_nil) sss_nil) (sss_cons (ss_ret (sa_callTy call_tuple_ofF s_tuple W.n_tuple (by decide +kernel) (sas_cons (sa_lc rfl hN (si_range1 W.n_range sa_var) (blk_of (own := [("other", 3)]) (by kernel_rfl)) rfl (fun _ _ _ _ _ => (sg_name hN)) (fun _ _ _ _ _ => (sts_one (sw_and (st_cmp (op_neD (u64 hr)) s_ne (nomark _) sa_var sa_var bl_ne) (sw_and1 (st_cmp (op_eqD (u64 hr)) s_eq (nomark _) (sa_call (ok__law_draw W) (hr.mono (by decide)) W.g__law_draw W.F__law_draw.kp W.b__law_draw (sas_cons sa_var (sas_cons sa_int sas_nil))) sa_int bl_eq))).st)) (fun _ _ _ _ _ => sa_var)) sas_nil))) sss_nil)) : SSs _ _ m__law_watching)
theorem sc__law_house : FnScope ["d", "sizes", "outcomes", "worths", "pay", "names", "told", "k", "persons", "person", "words", "kinds", "rows", "j", "o", "ends", "last", "row", "many", "slack"] ["d", "sizes", "outcomes", "worths", "pay"] (defScope (top 34)) := ⟨rfl, rfl, rfl, by decide +kernel, rfl, by decide +kernel, by decide +kernel⟩
theorem ok__law_house (W : Fx K mg) : FnOkG P w K mg base CX0 3 W.a__law_house W.d__law_house ["d", "sizes", "outcomes", "worths", "pay"] (spD K 5 c__law_house) :=
  fn_okD W.F__law_house sc__law_house rfl rfl fun cdv A outer s H E hr => (have hN := sc__law_house.nd; (sss_cons (ss_set (sa_call0 (ok__law_pool W) (hr.mono (by decide)) W.g__law_pool W.F__law_pool.kp W.b__law_pool) hN) (sss_cons (ss_set (sa_callTy call_tuple_ofF s_tuple W.n_tuple (by decide +kernel) (sas_cons (sa_lc rfl hN (si_range1 W.n_range sa_var) (blk_of (own := [("k", 7)]) (by kernel_rfl)) rfl (fun _ _ _ _ _ => (sg_name hN)) (fun _ _ _ _ _ => sts_nil) (fun _ _ _ _ _ => (sa_call (ok__law_pop W) (hr.mono (by decide)) W.g__law_pop W.F__law_pop.kp W.b__law_pop (sas_cons sa_var (sas_cons sa_var sas_nil))))) sas_nil)) hN) (sss_cons (ss_set (sa_lst sas_nil) hN) (sss_cons (ss_for PassesOwn.never rfl (si_range1 W.n_range (sa_callB call_lenAll s_len W.n_len (by decide +kernel) (sas_cons sa_var sas_nil))) (sg_name hN) (sss_cons (ss_set (sa_call0 (ok__law_pool W) (hr.mono (by decide)) W.g__law_pool W.F__law_pool.kp W.b__law_pool) hN) (sss_cons (ss_set (sa_lst sas_nil) hN) (sss_cons (ss_for PassesOwn.never rfl (si_range1 W.n_range (sa_ix (u1 hr) sa_var sa_var)) (sg_name hN) (sss_cons (ss_set (sa_lst sas_nil) hN) (sss_cons (ss_for PassesOwn.never rfl (si_range1 W.n_range (sa_bin op_addAll s_add sa_int (sa_call (ok__law_draw W) (hr.mono (by decide)) W.g__law_draw W.F__law_draw.kp W.b__law_draw (sas_cons sa_var (sas_cons sa_var sas_nil))))) (sg_name hN) (sss_cons (ss_expr (sa_meth PySem.F.slot_list_append PySem.F.type_list_append mt_append s_append (sas_cons (sa_callTy call_tuple_ofF s_tuple W.n_tuple (by decide +kernel) (sas_cons (sa_lc rfl hN (si_range1 W.n_range sa_var) (blk_of (own := [("o", 14)]) (by kernel_rfl)) rfl (fun _ _ _ _ _ => (sg_name hN)) (fun _ _ _ _ _ => sts_nil) (fun _ _ _ _ _ => (sa_call (ok__law_number W) (hr.mono (by decide)) W.g__law_number W.F__law_number.kp W.b__law_number (sas_cons sa_var sas_nil)))) sas_nil)) sas_nil))) sss_nil)) (sss_cons (ss_expr (sa_meth PySem.F.slot_list_append PySem.F.type_list_append mt_append s_append (sas_cons (sa_tup (sas_cons (sa_call (ok__law_pop W) (hr.mono (by decide)) W.g__law_pop W.F__law_pop.kp W.b__law_pop (sas_cons sa_var (sas_cons sa_var sas_nil))) (sas_cons (sa_callTy call_tuple_ofF s_tuple W.n_tuple (by decide +kernel) (sas_cons sa_var sas_nil)) sas_nil))) sas_nil))) sss_nil)))) (sss_cons (ss_expr (sa_meth PySem.F.slot_list_append PySem.F.type_list_append mt_append s_append (sas_cons (sa_tup (sas_cons (sa_call (ok__law_pop W) (hr.mono (by decide)) W.g__law_pop W.F__law_pop.kp W.b__law_pop (sas_cons sa_var (sas_cons sa_var sas_nil))) (sas_cons (sa_callTy call_tuple_ofF s_tuple W.n_tuple (by decide +kernel) (sas_cons sa_var sas_nil)) (sas_cons (sa_call (ok__law_watching W) (hr.mono (by decide)) W.g__law_watching W.F__law_watching.kp W.b__law_watching (sas_cons sa_var (sas_cons sa_var (sas_cons (sa_callB call_lenAll s_len W.n_len (by decide +kernel) (sas_cons sa_var sas_nil)) sas_nil)))) sas_nil)))) sas_nil))) sss_nil))))) (sss_cons (ss_set (sa_lst sas_nil) hN) (sss_cons (ss_set sa_non hN) (sss_cons (ss_for PassesOwn.never rfl (si_seq (sa_call (ok__law_rows W) (hr.mono (by decide)) W.g__law_rows W.F__law_rows.kp W.b__law_rows (sas_cons (sa_lc rfl hN (si_seq sa_var) (blk_of (own := [("many", 18)]) (by kernel_rfl)) rfl (fun _ _ _ _ _ => (sg_name hN)) (fun _ _ _ _ _ => sts_nil) (fun _ _ _ _ _ => (sa_listRg rfl W.n_list (srg_1 W.n_range sa_var)))) sas_nil))) (sg_name hN) (sss_cons (ss_if (sw_or (st_cmp op_isN s_isN (nomark _) sa_var sa_non bl_isN) (sw_or1 (st_cmp (op_neD (u64 hr)) s_ne (nomark _) (sa_call (ok__law_draw W) (hr.mono (by decide)) W.g__law_draw W.F__law_draw.kp W.b__law_draw (sas_cons sa_var (sas_cons sa_int sas_nil))) sa_int bl_ne))).st (sss_cons (ss_set (sa_tup (sas_cons (sa_call (ok__law_draw W) (hr.mono (by decide)) W.g__law_draw W.F__law_draw.kp W.b__law_draw (sas_cons sa_var (sas_cons sa_var sas_nil))) (sas_cons (sa_callTy call_tuple_ofF s_tuple W.n_tuple (by decide +kernel) (sas_cons (sa_lc rfl hN (si_seq sa_var) (blk_of (own := [("k", 7)]) (by kernel_rfl)) rfl (fun _ _ _ _ _ => (sg_name hN)) (fun _ _ _ _ _ => sts_nil) (fun _ _ _ _ _ => (sa_bin op_sub s_sub (sa_call (ok__law_draw W) (hr.mono (by decide)) W.g__law_draw W.F__law_draw.kp W.b__law_draw (sas_cons sa_var (sas_cons (sa_bin op_addAll s_add (sa_bin op_mulAll s_mul sa_int sa_var) sa_int) sas_nil))) sa_var))) sas_nil)) sas_nil))) hN) sss_nil) sss_nil) (sss_cons (ss_expr (sa_meth PySem.F.slot_list_append PySem.F.type_list_append mt_append s_append (sas_cons sa_var sas_nil))) sss_nil))) (sss_cons (ss_set sa_int hN) (sss_cons (ss_if (st_cmp (op_eqD (u64 hr)) s_eq (nomark _) (sa_call (ok__law_draw W) (hr.mono (by decide)) W.g__law_draw W.F__law_draw.kp W.b__law_draw (sas_cons sa_var (sas_cons sa_int sas_nil))) sa_int bl_eq) (sss_cons (ss_set (sa_bin op_addAll s_add sa_int (sa_call (ok__law_draw W) (hr.mono (by decide)) W.g__law_draw W.F__law_draw.kp W.b__law_draw (sas_cons sa_var (sas_cons sa_int sas_nil)))) hN) sss_nil) sss_nil) (sss_cons (ss_ret (sa_tup (sas_cons sa_str (sas_cons sa_var (sas_cons (sa_callTy call_tuple_ofF s_tuple W.n_tuple (by decide +kernel) (sas_cons sa_var sas_nil)) (sas_cons (sa_callTy call_tuple_ofF s_tuple W.n_tuple (by decide +kernel) (sas_cons sa_var sas_nil)) (sas_cons sa_var sas_nil))))))) sss_nil)))))))))) : SSs _ _ m__law_house)
theorem sc__law_parts : FnScope ["d", "kinds", "parts", "kind", "at", "share"] ["d", "kinds"] (defScope (top 35)) := ⟨rfl, rfl, rfl, by decide +kernel, rfl, by decide +kernel, by decide +kernel⟩
theorem ok__law_parts (W : Fx K mg) : FnOkG P w K mg base CX0 2 W.a__law_parts W.d__law_parts ["d", "kinds"] (spD K 2 c__law_parts) :=
  fn_okD W.F__law_parts sc__law_parts rfl rfl fun cdv A outer s H E hr => (have hN := sc__law_parts.nd; (sss_cons (ss_set (sa_lst2 (sas_cons (sa_lst (sas_cons (sa_ix (u1 hr) sa_var sa_int) sas_nil)) sas_nil)) hN) (sss_cons (ss_for PassesOwn.never rfl (si_seq (sa_slice sa_var (spo_some sa_int) spo_none)) (sg_name hN) (sss_cons (ss_set (sa_call (ok__law_draw W) (hr.mono (by decide)) W.g__law_draw W.F__law_draw.kp W.b__law_draw (sas_cons sa_var (sas_cons (sa_bin op_addAll s_add (sa_callB call_lenAll s_len W.n_len (by decide +kernel) (sas_cons sa_var sas_nil)) sa_int) sas_nil))) hN) (sss_cons (ss_if (st_cmp (op_eqD (u64 hr)) s_eq (nomark _) sa_var (sa_callB call_lenAll s_len W.n_len (by decide +kernel) (sas_cons sa_var sas_nil)) bl_eq) (sss_cons (ss_expr (sa_app2 (sa_lst (sas_cons sa_var sas_nil)))) sss_nil) (sss_cons (ss_expr (sa_appIx sa_var sa_var)) sss_nil)) sss_nil))) (sss_cons (ss_if (st_cmp (op_eqD (u64 hr)) s_eq (nomark _) (sa_callB call_lenAll s_len W.n_len (by decide +kernel) (sas_cons sa_var sas_nil)) sa_int bl_eq) (sss_cons (ss_set (sa_lst2 (sas_cons (sa_lst (sas_cons (sa_ix (u1 hr) sa_var sa_int) sas_nil)) (sas_cons (sa_callTy call_list_of s_list W.n_list (by decide +kernel) (sas_cons (sa_slice sa_var (spo_some sa_int) spo_none) sas_nil)) sas_nil))) hN) sss_nil) sss_nil) (sss_cons (ss_ret (sa_callTy call_tuple_ofF s_tuple W.n_tuple (by decide +kernel) (sas_cons (sa_lc rfl hN (si_seq sa_var) (blk_of (own := [("share", 5)]) (by kernel_rfl)) rfl (fun _ _ _ _ _ => (sg_name hN)) (fun _ _ _ _ _ => sts_nil) (fun _ _ _ _ _ => (sa_callTy call_tuple_ofF s_tuple W.n_tuple (by decide +kernel) (sas_cons sa_var sas_nil)))) sas_nil))) sss_nil)))) : SSs _ _ m__law_parts)
theorem sc__law_narrowed : FnScope ["box", "person", "kinds"] ["box", "person", "kinds"] (defScope (top 36)) := ⟨rfl, rfl, rfl, by decide +kernel, rfl, by decide +kernel, by decide +kernel⟩
theorem ok__law_narrowed (W : Fx K mg) : FnOkG P w K mg base CX0 1 W.a__law_narrowed W.d__law_narrowed ["box", "person", "kinds"] (spD K 3 c__law_narrowed) :=
  fn_okD W.F__law_narrowed sc__law_narrowed rfl rfl fun cdv A outer s H E hr => (have hN := sc__law_narrowed.nd; (sss_cons (ss_ret (sa_bin op_addAll s_add (sa_bin op_addAll s_add (sa_callTy call_tuple_ofF s_tuple W.n_tuple (by decide +kernel) (sas_cons (sa_slice sa_var spo_none (spo_some sa_var)) sas_nil)) (sa_tup (sas_cons (sa_callTy call_tuple_ofF s_tuple W.n_tuple (by decide +kernel) (sas_cons sa_var sas_nil)) sas_nil))) (sa_callTy call_tuple_ofF s_tuple W.n_tuple (by decide +kernel) (sas_cons (sa_slice sa_var (spo_some (sa_bin op_addAll s_add sa_var sa_int)) spo_none) sas_nil)))) sss_nil) : SSs _ _ m__law_narrowed)
theorem sc__law_hearing : FnScope ["d", "box", "many", "able", "person", "parts", "kind", "rows", "share"] ["d", "box", "many"] (defScope (top 37)) := ⟨rfl, rfl, rfl, by decide +kernel, rfl, by decide +kernel, by decide +kernel⟩
theorem okS__law_hearing (W : Fx K mg) : ∀ n : Nat, (FnOkG P w K mg base CX0 (2 + n) W.a__law_hearing W.d__law_hearing ["d", "box", "many"] (spD K 3 (c__law_hearing n)))
  | 0 => FnOkG.bad
  | n + 1 => have ih := okS__law_hearing W n; fn_okD (k := 2 + n) W.F__law_hearing sc__law_hearing rfl rfl fun cdv A outer s H E hr => (have hN := sc__law_hearing.nd; (sss_cons (ss_setLc rfl hN (si_range1 W.n_range (sa_callB call_lenAll s_len W.n_len (by decide +kernel) (sas_cons sa_var sas_nil))) (blk_of (own := [("person", 4)]) (by kernel_rfl)) rfl (fun _ _ _ _ _ => (sg_name hN)) (fun _ _ _ _ _ => (sts_one (st_cmp op_gt s_cmp (nomark _) (sa_callB call_lenAll s_len W.n_len (by decide +kernel) (sas_cons (sa_ix (u1 hr) sa_var sa_var) sas_nil)) sa_int bl_cmp))) (fun _ _ _ _ _ => sa_var)) (sss_cons (ss_if (sw_or (st_not (st_truth sa_var)) (sw_or (st_cmp op_lt s_cmp (nomark _) sa_var sa_int bl_cmp) (sw_or1 (st_cmp (op_eqD (u64 hr)) s_eq (nomark _) (sa_call (ok__law_draw W) (hr.mono (Nat.le_trans (by decide) (Nat.le_add_right 2 n))) W.g__law_draw W.F__law_draw.kp W.b__law_draw (sas_cons sa_var (sas_cons sa_int sas_nil))) sa_int bl_eq)))).st (sss_cons (ss_ret (sa_tup (sas_cons sa_str sas_nil) (hl := Nat.le_of_ble_eq_true rfl))) sss_nil) sss_nil) (sss_cons (ss_set (sa_call (ok__law_pick W) (hr.mono (Nat.le_trans (by decide) (Nat.le_add_right 2 n))) W.g__law_pick W.F__law_pick.kp W.b__law_pick (sas_cons sa_var (sas_cons sa_var sas_nil))) hN) (sss_cons (ss_set (sa_call (ok__law_parts W) (hr.mono (Nat.le_trans (by decide) (Nat.le_add_right 2 n))) W.g__law_parts W.F__law_parts.kp W.b__law_parts (sas_cons sa_var (sas_cons (sa_ix (u1 hr) sa_var sa_var) sas_nil))) hN) (sss_cons (ss_if (st_cmp op_gt s_cmp (nomark _) (sa_callB call_lenAll s_len W.n_len (by decide +kernel) (sas_cons sa_var sas_nil)) sa_var bl_cmp) (sss_cons (ss_set (sa_tup (sas_cons (sa_ix (u1 hr) sa_var sa_int) (sas_cons (sa_callTy call_tuple_ofF s_tuple W.n_tuple (by decide +kernel) (sas_cons (sa_lc rfl hN (si_seq (sa_ix (u1 hr) sa_var sa_var)) (blk_of (own := [("kind", 6)]) (by kernel_rfl)) rfl (fun _ _ _ _ _ => (sg_name hN)) (fun _ _ _ _ _ => (sts_one (st_cmp (op_notInAll (u65 hr)) s_notIn (by rfl) sa_var (sa_ix (u1 hr) sa_var sa_int) bl_in))) (fun _ _ _ _ _ => sa_var)) sas_nil)) sas_nil)) (hl := Nat.le_of_ble_eq_true rfl)) hN) sss_nil) sss_nil) (sss_cons (ss_set (sa_lst sas_nil (hl := Nat.le_of_ble_eq_true rfl)) hN) (sss_cons (ss_for PassesOwn.never rfl (si_seq sa_var) (sg_name hN) (sss_cons (ss_expr (sa_meth PySem.F.slot_list_append PySem.F.type_list_append mt_append s_append (sas_cons (sa_tup (sas_cons sa_var (sas_cons (sa_call (ih) (hr.mono (Nat.le_refl _)) W.g__law_hearing W.F__law_hearing.kp W.b__law_hearing (sas_cons sa_var (sas_cons (sa_call (ok__law_narrowed W) (hr.mono (Nat.le_trans (by decide) (Nat.le_add_right 2 n))) W.g__law_narrowed W.F__law_narrowed.kp W.b__law_narrowed (sas_cons sa_var (sas_cons sa_var (sas_cons sa_var sas_nil)))) (sas_cons (sa_bin op_fdiv s_div sa_var (sa_callB call_lenAll s_len W.n_len (by decide +kernel) (sas_cons sa_var sas_nil))) sas_nil)))) sas_nil)) (hl := Nat.le_of_ble_eq_true rfl)) sas_nil))) sss_nil)) (sss_cons (ss_ret (sa_tup (sas_cons sa_str (sas_cons sa_var (sas_cons (sa_callTy call_tuple_ofF s_tuple W.n_tuple (by decide +kernel) (sas_cons sa_var sas_nil)) sas_nil))) (hl := Nat.le_of_ble_eq_true rfl))) sss_nil)))))))) : SSs _ _ (m__law_hearing (c__law_hearing n)))
theorem ok__law_hearing (W : Fx K mg) : FnOkG P w K mg base CX0 (2 + 30) W.a__law_hearing W.d__law_hearing ["d", "box", "many"] (spD K 3 (c__law_hearing 30)) := (okS__law_hearing W 30)
theorem sc__law_nodes : FnScope ["box", "hearing", "found", "waiting", "path", "here", "node", "k", "kinds", "below"] ["box", "hearing"] (defScope (top 38)) := ⟨rfl, rfl, rfl, by decide +kernel, rfl, by decide +kernel, by decide +kernel⟩
theorem ok__law_nodes (W : Fx K mg) : FnOkG P w K mg base CX0 2 W.a__law_nodes W.d__law_nodes ["box", "hearing"] (spD K 2 c__law_nodes) :=
  fn_okD W.F__law_nodes sc__law_nodes rfl rfl fun cdv A outer s H E hr => (have hN := sc__law_nodes.nd; (sss_cons (ss_set (sa_lst sas_nil) hN) (sss_cons (ss_set (sa_lst (sas_cons (sa_tup (sas_cons (sa_tup sas_nil) (sas_cons (sa_callTy call_tuple_ofF s_tuple W.n_tuple (by decide +kernel) (sas_cons sa_var sas_nil)) (sas_cons sa_var sas_nil)))) sas_nil)) hN) (sss_cons (ss_while 100000 PassesOwn.never (st_truth sa_var) (sss_cons (ss_asg (sa_meth0 PySem.F.slot_list_pop PySem.F.type_list_pop mt_pop s_pop0) (sg_tup rfl (sgs_cons (sg_name hN) (sgs_cons (sg_name hN) (sgs_cons (sg_name hN) sgs_nil))))) (sss_cons (ss_expr (sa_meth PySem.F.slot_list_append PySem.F.type_list_append mt_append s_append (sas_cons (sa_tup (sas_cons sa_var (sas_cons sa_var (sas_cons sa_var sas_nil)))) sas_nil))) (sss_cons (ss_if (st_cmp (op_eqD (u64 hr)) s_eq (nomark _) (sa_ix (u1 hr) sa_var sa_int) sa_str bl_eq) (sss_cons (ss_for PassesOwn.never rfl (si_range3 W.n_range (sas_cons (sa_bin op_sub s_sub (sa_callB call_lenAll s_len W.n_len (by decide +kernel) (sas_cons (sa_ix (u1 hr) sa_var sa_int) sas_nil)) sa_int) (sas_cons (sa_un un_neg s_neg sa_int) (sas_cons (sa_un un_neg s_neg sa_int) sas_nil)))) (sg_name hN) (sss_cons (ss_asg (sa_ix (u1 hr) (sa_ix (u1 hr) sa_var sa_int) sa_var) (sg_tup rfl (sgs_cons (sg_name hN) (sgs_cons (sg_name hN) sgs_nil)))) (sss_cons (ss_expr (sa_meth PySem.F.slot_list_append PySem.F.type_list_append mt_append s_append (sas_cons (sa_tup (sas_cons (sa_bin op_addAll s_add sa_var (sa_tup (sas_cons sa_var sas_nil))) (sas_cons (sa_call (ok__law_narrowed W) (hr.mono (by decide)) W.g__law_narrowed W.F__law_narrowed.kp W.b__law_narrowed (sas_cons sa_var (sas_cons (sa_ix (u1 hr) sa_var sa_int) (sas_cons sa_var sas_nil)))) (sas_cons sa_var sas_nil)))) sas_nil))) sss_nil))) sss_nil) sss_nil) sss_nil)))) (sss_cons (ss_ret sa_var) sss_nil)))) : SSs _ _ m__law_nodes)
theorem sc__law_leaves : FnScope ["box", "hearing", "path", "here", "node"] ["box", "hearing"] (defScope (top 39)) := ⟨rfl, rfl, rfl, by decide +kernel, rfl, by decide +kernel, by decide +kernel⟩
theorem ok__law_leaves (W : Fx K mg) : FnOkG P w K mg base CX0 3 W.a__law_leaves W.d__law_leaves ["box", "hearing"] (spD K 2 c__law_leaves) :=
  fn_okD W.F__law_leaves sc__law_leaves rfl rfl fun cdv A outer s H E hr => (have hN := sc__law_leaves.nd; (sss_cons (ss_ret (sa_lc rfl hN (si_seq (sa_call (ok__law_nodes W) (hr.mono (by decide)) W.g__law_nodes W.F__law_nodes.kp W.b__law_nodes (sas_cons sa_var (sas_cons sa_var sas_nil)))) (blk_of (own := [("path", 2), ("here", 3), ("node", 4)]) (by kernel_rfl)) rfl (fun _ _ _ _ _ => (sg_tup rfl (sgs_cons (sg_name hN) (sgs_cons (sg_name hN) (sgs_cons (sg_name hN) sgs_nil))))) (fun _ _ _ _ _ => (sts_one (st_cmp (op_eqD (u64 hr)) s_eq (nomark _) (sa_ix (u1 hr) sa_var sa_int) sa_str bl_eq))) (fun _ _ _ _ _ => (sa_tup (sas_cons sa_var (sas_cons sa_var sas_nil)))))) sss_nil) : SSs _ _ m__law_leaves)
theorem sc__law_run : FnScope ["hearing", "row", "path", "answers", "node", "word", "at", "k"] ["hearing", "row"] (defScope (top 40)) := ⟨rfl, rfl, rfl, by decide +kernel, rfl, by decide +kernel, by decide +kernel⟩
theorem ok__law_run (W : Fx K mg) : FnOkG P w K mg base CX0 1 W.a__law_run W.d__law_run ["hearing", "row"] (spD K 2 c__law_run) :=
  fn_okD W.F__law_run sc__law_run rfl rfl fun cdv A outer s H E hr => (have hN := sc__law_run.nd; (sss_cons (ss_set (sa_tup sas_nil) hN) (sss_cons (ss_set (sa_lst sas_nil) hN) (sss_cons (ss_set sa_var hN) (sss_cons (ss_while 100000 PassesOwn.never (st_cmp (op_eqD (u64 hr)) s_eq (nomark _) (sa_ix (u1 hr) sa_var sa_int) sa_str bl_eq) (sss_cons (ss_set (sa_ix (u1 hr) sa_var (sa_ix (u1 hr) sa_var sa_int)) hN) (sss_cons (ss_set (sa_ix (u1 hr) (sa_lc rfl hN (si_range1 W.n_range (sa_callB call_lenAll s_len W.n_len (by decide +kernel) (sas_cons (sa_ix (u1 hr) sa_var sa_int) sas_nil))) (blk_of (own := [("k", 7)]) (by kernel_rfl)) rfl (fun _ _ _ _ _ => (sg_name hN)) (fun _ _ _ _ _ => (sts_one (st_cmp (op_inAll (u65 hr)) s_in (by rfl) sa_var (sa_ix (u1 hr) (sa_ix (u1 hr) (sa_ix (u1 hr) sa_var sa_int) sa_var) sa_int) bl_in))) (fun _ _ _ _ _ => sa_var)) sa_int) hN) (sss_cons (ss_expr (sa_meth PySem.F.slot_list_append PySem.F.type_list_append mt_append s_append (sas_cons (sa_tup (sas_cons (sa_ix (u1 hr) sa_var sa_int) (sas_cons (sa_ix (u1 hr) (sa_ix (u1 hr) (sa_ix (u1 hr) sa_var sa_int) sa_var) sa_int) sas_nil))) sas_nil))) (sss_cons (ss_set (sa_bin op_addAll s_add sa_var (sa_tup (sas_cons sa_var sas_nil))) hN) (sss_cons (ss_set (sa_ix (u1 hr) (sa_ix (u1 hr) (sa_ix (u1 hr) sa_var sa_int) sa_var) sa_int) hN) sss_nil)))))) (sss_cons (ss_ret (sa_tup (sas_cons (sa_callTy call_tuple_ofF s_tuple W.n_tuple (by decide +kernel) (sas_cons sa_var sas_nil)) (sas_cons sa_var sas_nil)))) sss_nil))))) : SSs _ _ m__law_run)
theorem sc__law_whole : FnScope ["house", "person"] ["house"] (defScope (top 41)) := ⟨rfl, rfl, rfl, by decide +kernel, rfl, by decide +kernel, by decide +kernel⟩
theorem ok__law_whole (W : Fx K mg) : FnOkG P w K mg base CX0 1 W.a__law_whole W.d__law_whole ["house"] (spD K 1 c__law_whole) :=
  fn_okD W.F__law_whole sc__law_whole rfl rfl fun cdv A outer s H E hr => (have hN := sc__law_whole.nd; (sss_cons (ss_ret (sa_callTy call_tuple_ofF s_tuple W.n_tuple (by decide +kernel) (sas_cons (sa_lc rfl hN (si_seq (sa_ix (u1 hr) sa_var sa_int)) (blk_of (own := [("person", 1)]) (by kernel_rfl)) rfl (fun _ _ _ _ _ => (sg_name hN)) (fun _ _ _ _ _ => sts_nil) (fun _ _ _ _ _ => (sa_tupRg rfl W.n_tuple (srg_1 W.n_range (sa_callB call_lenAll s_len W.n_len (by decide +kernel) (sas_cons (sa_ix (u1 hr) sa_var sa_int) sas_nil)))))) sas_nil))) sss_nil) : SSs _ _ m__law_whole)
theorem sc__law_end : FnScope ["house", "row", "place", "person"] ["house", "row"] (defScope (top 42)) := ⟨rfl, rfl, rfl, by decide +kernel, rfl, by decide +kernel, by decide +kernel⟩
theorem ok__law_end (W : Fx K mg) : FnOkG P w K mg base CX0 1 W.a__law_end W.d__law_end ["house", "row"] (spD K 2 c__law_end) :=
  fn_okD W.F__law_end sc__law_end rfl rfl fun cdv A outer s H E hr => (have hN := sc__law_end.nd; (sss_cons (ss_set sa_int hN) (sss_cons (ss_for PassesOwn.never rfl (si_range1 W.n_range (sa_callB call_lenAll s_len W.n_len (by decide +kernel) (sas_cons sa_var sas_nil))) (sg_name hN) (sss_cons (ss_set (sa_bin op_addAll s_add (sa_bin op_mulAll s_mul sa_var (sa_callB call_lenAll s_len W.n_len (by decide +kernel) (sas_cons (sa_ix (u1 hr) (sa_ix (u1 hr) (sa_ix (u1 hr) sa_var sa_int) sa_var) sa_int) sas_nil))) (sa_ix (u1 hr) sa_var sa_var)) hN) sss_nil)) (sss_cons (ss_ret (sa_ix (u1 hr) (sa_ix (u1 hr) sa_var sa_int) sa_var)) sss_nil))) : SSs _ _ m__law_end)
theorem sc__law_value : FnScope ["house", "person", "kind", "worth", "end"] ["house", "person", "kind", "worth", "end"] (defScope (top 43)) := ⟨rfl, rfl, rfl, by decide +kernel, rfl, by decide +kernel, by decide +kernel⟩
theorem ok__law_value (W : Fx K mg) : FnOkG P w K mg base CX0 1 W.a__law_value W.d__law_value ["house", "person", "kind", "worth", "end"] (spD K 5 c__law_value) :=
  fn_okD W.F__law_value sc__law_value rfl rfl fun cdv A outer s H E hr => (have hN := sc__law_value.nd; (sss_cons (ss_ret (sa_bin op_sub s_sub (sa_ix (u1 hr) (sa_ix (u1 hr) (sa_ix (u1 hr) (sa_ix (u1 hr) (sa_ix (u1 hr) (sa_ix (u1 hr) (sa_ix (u1 hr) sa_var sa_int) sa_var) sa_int) sa_var) sa_int) sa_var) (sa_ix (u1 hr) sa_var sa_int)) (sa_ix (u1 hr) (sa_ix (u1 hr) sa_var sa_int) sa_var))) sss_nil) : SSs _ _ m__law_value)
theorem sc__law_case : FnScope ["house", "person", "row", "other"] ["house", "person", "row"] (defScope (top 44)) := ⟨rfl, rfl, rfl, by decide +kernel, rfl, by decide +kernel, by decide +kernel⟩
theorem ok__law_case (W : Fx K mg) : FnOkG P w K mg base CX0 1 W.a__law_case W.d__law_case ["house", "person", "row"] (spD K 3 c__law_case) :=
  fn_okD W.F__law_case sc__law_case rfl rfl fun cdv A outer s H E hr => (have hN := sc__law_case.nd; (sss_cons (ss_ret (sa_callTy call_tuple_ofF s_tuple W.n_tuple (by decide +kernel) (sas_cons (sa_lc rfl hN (si_seq (sa_ix (u1 hr) (sa_ix (u1 hr) (sa_ix (u1 hr) sa_var sa_int) sa_var) sa_int)) (blk_of (own := [("other", 3)]) (by kernel_rfl)) rfl (fun _ _ _ _ _ => (sg_name hN)) (fun _ _ _ _ _ => sts_nil) (fun _ _ _ _ _ => (sa_ix (u1 hr) sa_var sa_var))) sas_nil))) sss_nil) : SSs _ _ m__law_case)
theorem sc__law_parting_person : FnScope ["hearing", "path", "other", "node", "k"] ["hearing", "path", "other"] (defScope (top 45)) := ⟨rfl, rfl, rfl, by decide +kernel, rfl, by decide +kernel, by decide +kernel⟩
theorem ok__law_parting_person (W : Fx K mg) : FnOkG P w K mg base CX0 1 W.a__law_parting_person W.d__law_parting_person ["hearing", "path", "other"] (spD K 3 c__law_parting_person) :=
  fn_okD W.F__law_parting_person sc__law_parting_person rfl rfl fun cdv A outer s H E hr => (have hN := sc__law_parting_person.nd; (sss_cons (ss_set sa_var hN) (sss_cons (ss_for PassesOwn.never rfl (si_range1 W.n_range (sa_callB (call_minAll rfl) s_min W.n_min (by decide +kernel) (sas_cons (sa_callB call_lenAll s_len W.n_len (by decide +kernel) (sas_cons sa_var sas_nil)) (sas_cons (sa_callB call_lenAll s_len W.n_len (by decide +kernel) (sas_cons sa_var sas_nil)) sas_nil)))) (sg_name hN) (sss_cons (ss_if (st_cmp (op_neD (u64 hr)) s_ne (nomark _) (sa_ix (u1 hr) sa_var sa_var) (sa_ix (u1 hr) sa_var sa_var) bl_ne) (sss_cons (ss_ret (sa_ix (u1 hr) sa_var sa_int)) sss_nil) sss_nil) (sss_cons (ss_set (sa_ix (u1 hr) (sa_ix (u1 hr) (sa_ix (u1 hr) sa_var sa_int) (sa_ix (u1 hr) sa_var sa_var)) sa_int) hN) sss_nil))) (sss_cons (ss_ret (sa_un un_neg s_neg sa_int)) sss_nil))) : SSs _ _ m__law_parting_person)
theorem sc__law_heard_values : FnScope ["d", "hearing", "leaves", "person", "kind", "watches", "slack", "values", "leaf", "k", "path", "box", "least", "j", "way", "other", "met", "w", "word"] ["d", "hearing", "leaves", "person", "kind", "watches", "slack"] (defScope (top 46)) := ⟨rfl, rfl, rfl, by decide +kernel, rfl, by decide +kernel, by decide +kernel⟩
theorem ok__law_heard_values (W : Fx K mg) : FnOkG P w K mg base CX0 2 W.a__law_heard_values W.d__law_heard_values ["d", "hearing", "leaves", "person", "kind", "watches", "slack"] (spD K 7 c__law_heard_values) :=
  fn_okD W.F__law_heard_values sc__law_heard_values rfl rfl fun cdv A outer s H E hr => (have hN := sc__law_heard_values.nd; (sss_cons (ss_setLc rfl hN (si_seq sa_var) (blk_of (own := [("leaf", 8)]) (by kernel_rfl)) rfl (fun _ _ _ _ _ => (sg_name hN)) (fun _ _ _ _ _ => sts_nil) (fun _ _ _ _ _ => sa_int)) (sss_cons (ss_for PassesOwn.never rfl (si_range1 W.n_range (sa_callB call_lenAll s_len W.n_len (by decide +kernel) (sas_cons sa_var sas_nil))) (sg_name hN) (sss_cons (ss_if (st_cmp (op_inAll (u65 hr)) s_in (by rfl) sa_var (sa_ix (u1 hr) (sa_ix (u1 hr) (sa_ix (u1 hr) sa_var sa_var) sa_int) sa_var) bl_in) (sss_cons (ss_setIxL (by rfl) (by first | exact Or.inl rfl | exact Or.inr (Or.inl rfl) | exact Or.inr (Or.inr rfl)) (by decide) (by decide) (sa_bin op_sub s_sub (sa_call (ok__law_draw W) (hr.mono (by decide)) W.g__law_draw W.F__law_draw.kp W.b__law_draw (sas_cons sa_var (sas_cons sa_int sas_nil))) sa_int) sa_var (by rfl) (by rfl) (by intros; rfl) (by rfl)) sss_nil) sss_nil) sss_nil)) (sss_cons (ss_for PassesOwn.never rfl (si_range1 W.n_range (sa_callB call_lenAll s_len W.n_len (by decide +kernel) (sas_cons sa_var sas_nil))) (sg_name hN) (sss_cons (ss_asg (sa_ix (u1 hr) sa_var sa_var) (sg_tup rfl (sgs_cons (sg_name hN) (sgs_cons (sg_name hN) sgs_nil)))) (sss_cons (ss_if (st_cmp (op_notInAll (u65 hr)) s_notIn (by rfl) sa_var (sa_ix (u1 hr) sa_var sa_var) bl_in) (sss_cons (ss_set sa_non hN) (sss_cons (ss_for PassesOwn.never rfl (si_range1 W.n_range (sa_callB call_lenAll s_len W.n_len (by decide +kernel) (sas_cons sa_var sas_nil))) (sg_name hN) (sss_cons (ss_asg (sa_ix (u1 hr) sa_var sa_var) (sg_tup rfl (sgs_cons (sg_name hN) (sgs_cons (sg_name hN) sgs_nil)))) (sss_cons (ss_setLc rfl hN (si_seq sa_var) (blk_of (own := [("w", 17)]) (by kernel_rfl)) rfl (fun _ _ _ _ _ => (sg_name hN)) (fun _ _ _ _ _ => (sts_one (st_not (st_truth (sa_lc rfl hN (si_seq (sa_ix (u1 hr) sa_var sa_var)) (blk_of (own := [("word", 18)]) (by kernel_rfl)) rfl (fun _ _ _ _ _ => (sg_name hN)) (fun _ _ _ _ _ => (sts_one (st_cmp (op_inAll (u65 hr)) s_in (by rfl) sa_var (sa_ix (u1 hr) sa_var sa_var) bl_in))) (fun _ _ _ _ _ => sa_var)))))) (fun _ _ _ _ _ => sa_var)) (sss_cons (ss_if (sw_and (st_cmp (op_inAll (u65 hr)) s_in (by rfl) sa_var (sa_ix (u1 hr) sa_var sa_var) bl_in) (sw_and (st_not (st_truth sa_var)) (sw_and1 (st_cmp (op_eqD (u64 hr)) s_eq (nomark _) (sa_call (ok__law_parting_person W) (hr.mono (by decide)) W.g__law_parting_person W.F__law_parting_person.kp W.b__law_parting_person (sas_cons sa_var (sas_cons sa_var (sas_cons sa_var sas_nil)))) sa_var bl_eq)))).st (sss_cons (ss_if (sw_or (st_cmp op_isN s_isN (nomark _) sa_var sa_non bl_isN) (sw_or1 (st_cmp op_lt s_cmp (nomark _) (sa_ix (u1 hr) sa_var sa_var) sa_var bl_cmp))).st (sss_cons (ss_set (sa_ix (u1 hr) sa_var sa_var) hN) sss_nil) sss_nil) sss_nil) sss_nil) sss_nil)))) (sss_cons (ss_if (st_cmp op_isN s_isN (nomark _) sa_var sa_non bl_isN) (sss_cons (ss_set (sa_call (ok__law_draw W) (hr.mono (by decide)) W.g__law_draw W.F__law_draw.kp W.b__law_draw (sas_cons sa_var (sas_cons sa_int sas_nil))) hN) sss_nil) sss_nil) (sss_cons (ss_setIxL (by rfl) (by first | exact Or.inl rfl | exact Or.inr (Or.inl rfl) | exact Or.inr (Or.inr rfl)) (by decide) (by decide) (sa_bin op_sub s_sub (sa_bin op_addAll s_add sa_var sa_var) (sa_callB (call_maxAll rfl) s_max W.n_max (by decide +kernel) (sas_cons sa_int (sas_cons (sa_bin op_sub s_sub (sa_call (ok__law_draw W) (hr.mono (by decide)) W.g__law_draw W.F__law_draw.kp W.b__law_draw (sas_cons sa_var (sas_cons sa_int sas_nil))) sa_int) sas_nil)))) sa_var (by rfl) (by rfl) (by intros; rfl) (by rfl)) sss_nil)))) sss_nil) sss_nil))) (sss_cons (ss_ret sa_var) sss_nil)))) : SSs _ _ m__law_heard_values)
theorem sc__law_heard_house : FnScope ["d", "sizes", "worths", "pay", "names", "whole_box", "many", "hearing", "leaves", "told", "leaf", "paid", "k", "slack", "persons", "person", "words", "watches", "kinds", "kind", "rows", "j", "values", "paths", "ends", "row", "at"] ["d", "sizes", "worths", "pay"] (defScope (top 47)) := ⟨rfl, rfl, rfl, by decide +kernel, rfl, by decide +kernel, by decide +kernel⟩
theorem ok__law_heard_house (W : Fx K mg) : FnOkG P w K mg base CX0 33 W.a__law_heard_house W.d__law_heard_house ["d", "sizes", "worths", "pay"] (spD K 4 c__law_heard_house) :=
  fn_okD W.F__law_heard_house sc__law_heard_house rfl rfl fun cdv A outer s H E hr => (have hN := sc__law_heard_house.nd; (sss_cons (ss_set (sa_call0 (ok__law_pool W) (hr.mono (by decide)) W.g__law_pool W.F__law_pool.kp W.b__law_pool) hN) (sss_cons (ss_set (sa_callTy call_tuple_ofF s_tuple W.n_tuple (by decide +kernel) (sas_cons (sa_lc rfl hN (si_seq sa_var) (blk_of (own := [("many", 6)]) (by kernel_rfl)) rfl (fun _ _ _ _ _ => (sg_name hN)) (fun _ _ _ _ _ => sts_nil) (fun _ _ _ _ _ => (sa_tupRg rfl W.n_tuple (srg_1 W.n_range sa_var)))) sas_nil)) hN) (sss_cons (ss_set (sa_call (ok__law_hearing W) (hr.mono (by decide)) W.g__law_hearing W.F__law_hearing.kp W.b__law_hearing (sas_cons sa_var (sas_cons sa_var (sas_cons sa_int sas_nil)))) hN) (sss_cons (ss_set (sa_call (ok__law_leaves W) (hr.mono (by decide)) W.g__law_leaves W.F__law_leaves.kp W.b__law_leaves (sas_cons sa_var (sas_cons sa_var sas_nil))) hN) (sss_cons (ss_set (sa_callTy call_tuple_ofF s_tuple W.n_tuple (by decide +kernel) (sas_cons (sa_lc rfl hN (si_seq sa_var) (blk_of (own := [("leaf", 10)]) (by kernel_rfl)) rfl (fun _ _ _ _ _ => (sg_name hN)) (fun _ _ _ _ _ => sts_nil) (fun _ _ _ _ _ => (sa_call (ok__law_pop W) (hr.mono (by decide)) W.g__law_pop W.F__law_pop.kp W.b__law_pop (sas_cons sa_var (sas_cons sa_var sas_nil))))) sas_nil)) hN) (sss_cons (ss_set (sa_lc rfl hN (si_seq sa_var) (blk_of (own := [("leaf", 10)]) (by kernel_rfl)) rfl (fun _ _ _ _ _ => (sg_name hN)) (fun _ _ _ _ _ => sts_nil) (fun _ _ _ _ _ => (sa_callTy call_tuple_ofF s_tuple W.n_tuple (by decide +kernel) (sas_cons (sa_lc rfl hN (si_seq sa_var) (blk_of (own := [("k", 12)]) (by kernel_rfl)) rfl (fun _ _ _ _ _ => (sg_name hN)) (fun _ _ _ _ _ => sts_nil) (fun _ _ _ _ _ => (sa_bin op_sub s_sub (sa_call (ok__law_draw W) (hr.mono (by decide)) W.g__law_draw W.F__law_draw.kp W.b__law_draw (sas_cons sa_var (sas_cons (sa_bin op_addAll s_add (sa_bin op_mulAll s_mul sa_int sa_var) sa_int) sas_nil))) sa_var))) sas_nil)))) hN) (sss_cons (ss_set sa_int hN) (sss_cons (ss_if (st_cmp (op_eqD (u64 hr)) s_eq (nomark _) (sa_call (ok__law_draw W) (hr.mono (by decide)) W.g__law_draw W.F__law_draw.kp W.b__law_draw (sas_cons sa_var (sas_cons sa_int sas_nil))) sa_int bl_eq) (sss_cons (ss_set (sa_bin op_addAll s_add sa_int (sa_call (ok__law_draw W) (hr.mono (by decide)) W.g__law_draw W.F__law_draw.kp W.b__law_draw (sas_cons sa_var (sas_cons sa_int sas_nil)))) hN) sss_nil) sss_nil) (sss_cons (ss_set (sa_lst sas_nil) hN) (sss_cons (ss_for PassesOwn.never rfl (si_range1 W.n_range (sa_callB call_lenAll s_len W.n_len (by decide +kernel) (sas_cons sa_var sas_nil))) (sg_name hN) (sss_cons (ss_set (sa_call0 (ok__law_pool W) (hr.mono (by decide)) W.g__law_pool W.F__law_pool.kp W.b__law_pool) hN) (sss_cons (ss_set (sa_call (ok__law_watching W) (hr.mono (by decide)) W.g__law_watching W.F__law_watching.kp W.b__law_watching (sas_cons sa_var (sas_cons sa_var (sas_cons (sa_callB call_lenAll s_len W.n_len (by decide +kernel) (sas_cons sa_var sas_nil)) sas_nil)))) hN) (sss_cons (ss_set (sa_lst sas_nil) hN) (sss_cons (ss_for PassesOwn.never rfl (si_range1 W.n_range (sa_ix (u1 hr) sa_var sa_var)) (sg_name hN) (sss_cons (ss_set (sa_lst sas_nil) hN) (sss_cons (ss_for PassesOwn.never rfl (si_range1 W.n_range (sa_bin op_addAll s_add sa_int (sa_call (ok__law_draw W) (hr.mono (by decide)) W.g__law_draw W.F__law_draw.kp W.b__law_draw (sas_cons sa_var (sas_cons sa_var sas_nil))))) (sg_name hN) (sss_cons (ss_set (sa_call (ok__law_heard_values W) (hr.mono (by decide)) W.g__law_heard_values W.F__law_heard_values.kp W.b__law_heard_values (sas_cons sa_var (sas_cons sa_var (sas_cons sa_var (sas_cons sa_var (sas_cons sa_var (sas_cons sa_var (sas_cons sa_var sas_nil)))))))) hN) (sss_cons (ss_expr (sa_meth PySem.F.slot_list_append PySem.F.type_list_append mt_append s_append (sas_cons (sa_callTy call_tuple_ofF s_tuple W.n_tuple (by decide +kernel) (sas_cons (sa_lc rfl hN (si_range1 W.n_range (sa_callB call_lenAll s_len W.n_len (by decide +kernel) (sas_cons sa_var sas_nil))) (blk_of (own := [("k", 12)]) (by kernel_rfl)) rfl (fun _ _ _ _ _ => (sg_name hN)) (fun _ _ _ _ _ => sts_nil) (fun _ _ _ _ _ => (sa_bin op_addAll s_add (sa_ix (u1 hr) sa_var sa_var) (sa_ix (u1 hr) (sa_ix (u1 hr) sa_var sa_var) sa_var)))) sas_nil)) sas_nil))) sss_nil))) (sss_cons (ss_expr (sa_meth PySem.F.slot_list_append PySem.F.type_list_append mt_append s_append (sas_cons (sa_tup (sas_cons (sa_call (ok__law_pop W) (hr.mono (by decide)) W.g__law_pop W.F__law_pop.kp W.b__law_pop (sas_cons sa_var (sas_cons sa_var sas_nil))) (sas_cons (sa_callTy call_tuple_ofF s_tuple W.n_tuple (by decide +kernel) (sas_cons sa_var sas_nil)) sas_nil))) sas_nil))) sss_nil)))) (sss_cons (ss_expr (sa_meth PySem.F.slot_list_append PySem.F.type_list_append mt_append s_append (sas_cons (sa_tup (sas_cons (sa_call (ok__law_pop W) (hr.mono (by decide)) W.g__law_pop W.F__law_pop.kp W.b__law_pop (sas_cons sa_var (sas_cons sa_var sas_nil))) (sas_cons (sa_callTy call_tuple_ofF s_tuple W.n_tuple (by decide +kernel) (sas_cons sa_var sas_nil)) (sas_cons sa_var sas_nil)))) sas_nil))) sss_nil)))))) (sss_cons (ss_setLc rfl hN (si_seq sa_var) (blk_of (own := [("leaf", 10)]) (by kernel_rfl)) rfl (fun _ _ _ _ _ => (sg_name hN)) (fun _ _ _ _ _ => sts_nil) (fun _ _ _ _ _ => (sa_ix (u1 hr) sa_var sa_int))) (sss_cons (ss_set (sa_lst sas_nil) hN) (sss_cons (ss_for PassesOwn.never rfl (si_seq (sa_call (ok__law_rows W) (hr.mono (by decide)) W.g__law_rows W.F__law_rows.kp W.b__law_rows (sas_cons sa_var sas_nil))) (sg_name hN) (sss_cons (ss_set (sa_index (u65 hr) sa_var (sa_ix (u1 hr) (sa_call (ok__law_run W) (hr.mono (by decide)) W.g__law_run W.F__law_run.kp W.b__law_run (sas_cons sa_var (sas_cons sa_var sas_nil))) sa_int)) hN) (sss_cons (ss_expr (sa_meth PySem.F.slot_list_append PySem.F.type_list_append mt_append s_append (sas_cons (sa_tup (sas_cons sa_var (sas_cons (sa_ix (u1 hr) sa_var sa_var) sas_nil))) sas_nil))) sss_nil))) (sss_cons (ss_ret (sa_tup (sas_cons (sa_tup (sas_cons sa_str (sas_cons sa_var (sas_cons (sa_callTy call_tuple_ofF s_tuple W.n_tuple (by decide +kernel) (sas_cons sa_var sas_nil)) (sas_cons (sa_callTy call_tuple_ofF s_tuple W.n_tuple (by decide +kernel) (sas_cons sa_var sas_nil)) (sas_cons sa_var sas_nil)))))) (sas_cons sa_var sas_nil)))) sss_nil)))))))))))))) : SSs _ _ m__law_heard_house)
theorem sc__law_drawn_box : FnScope ["d", "box", "found", "share", "some", "kind"] ["d", "box"] (defScope (top 48)) := ⟨rfl, rfl, rfl, by decide +kernel, rfl, by decide +kernel, by decide +kernel⟩
theorem ok__law_drawn_box (W : Fx K mg) : FnOkG P w K mg base CX0 3 W.a__law_drawn_box W.d__law_drawn_box ["d", "box"] (spD K 2 c__law_drawn_box) :=
  fn_okD W.F__law_drawn_box sc__law_drawn_box rfl rfl fun cdv A outer s H E hr => (have hN := sc__law_drawn_box.nd; (sss_cons (ss_set (sa_lst sas_nil) hN) (sss_cons (ss_for PassesOwn.never rfl (si_seq sa_var) (sg_name hN) (sss_cons (ss_set (sa_callTy call_tuple_ofF s_tuple W.n_tuple (by decide +kernel) (sas_cons (sa_lc rfl hN (si_seq sa_var) (blk_of (own := [("kind", 5)]) (by kernel_rfl)) rfl (fun _ _ _ _ _ => (sg_name hN)) (fun _ _ _ _ _ => (sts_one (st_cmp op_gt s_cmp (nomark _) (sa_call (ok__law_draw W) (hr.mono (by decide)) W.g__law_draw W.F__law_draw.kp W.b__law_draw (sas_cons sa_var (sas_cons sa_int sas_nil))) sa_int bl_cmp))) (fun _ _ _ _ _ => sa_var)) sas_nil)) hN) (sss_cons (ss_if (st_cmp (op_eqD (u64 hr)) s_eq (nomark _) (sa_callB call_lenAll s_len W.n_len (by decide +kernel) (sas_cons sa_var sas_nil)) sa_int bl_eq) (sss_cons (ss_set (sa_tup (sas_cons (sa_call (ok__law_pick W) (hr.mono (by decide)) W.g__law_pick W.F__law_pick.kp W.b__law_pick (sas_cons sa_var (sas_cons sa_var sas_nil))) sas_nil)) hN) sss_nil) sss_nil) (sss_cons (ss_expr (sa_meth PySem.F.slot_list_append PySem.F.type_list_append mt_append s_append (sas_cons sa_var sas_nil))) sss_nil)))) (sss_cons (ss_ret (sa_callTy call_tuple_ofF s_tuple W.n_tuple (by decide +kernel) (sas_cons sa_var sas_nil))) sss_nil))) : SSs _ _ m__law_drawn_box)
theorem sc__law_wide_sizes : FnScope ["d", "found", "rows", "k", "size"] ["d"] (defScope (top 49)) := ⟨rfl, rfl, rfl, by decide +kernel, rfl, by decide +kernel, by decide +kernel⟩
theorem ok__law_wide_sizes (W : Fx K mg) : FnOkG P w K mg base CX0 3 W.a__law_wide_sizes W.d__law_wide_sizes ["d"] (spD K 1 c__law_wide_sizes) :=
  fn_okD W.F__law_wide_sizes sc__law_wide_sizes rfl rfl fun cdv A outer s H E hr => (have hN := sc__law_wide_sizes.nd; (sss_cons (ss_set (sa_lst sas_nil) hN) (sss_cons (ss_set sa_int hN) (sss_cons (ss_for PassesOwn.never rfl (si_range1 W.n_range (sa_bin op_addAll s_add sa_int (sa_call (ok__law_draw W) (hr.mono (by decide)) W.g__law_draw W.F__law_draw.kp W.b__law_draw (sas_cons sa_var (sas_cons sa_int sas_nil))))) (sg_name hN) (sss_cons (ss_set (sa_bin op_addAll s_add sa_int (sa_call (ok__law_draw W) (hr.mono (by decide)) W.g__law_draw W.F__law_draw.kp W.b__law_draw (sas_cons sa_var (sas_cons (sa_callB (call_minAll rfl) s_min W.n_min (by decide +kernel) (sas_cons sa_int (sas_cons (sa_bin op_fdiv s_div sa_int sa_var) sas_nil))) sas_nil)))) hN) (sss_cons (ss_set (sa_bin op_mulAll s_mul sa_var sa_var) hN) (sss_cons (ss_expr (sa_meth PySem.F.slot_list_append PySem.F.type_list_append mt_append s_append (sas_cons sa_var sas_nil))) sss_nil)))) (sss_cons (ss_ret (sa_callTy call_tuple_ofF s_tuple W.n_tuple (by decide +kernel) (sas_cons (sa_call (ok__law_shuffled W) (hr.mono (by decide)) W.g__law_shuffled W.F__law_shuffled.kp W.b__law_shuffled (sas_cons sa_var (sas_cons sa_var sas_nil))) sas_nil))) sss_nil)))) : SSs _ _ m__law_wide_sizes)
theorem sc__law_wide_house : FnScope ["d", "sizes", "names", "outcomes", "scale", "span", "told", "k", "persons", "person", "words", "kinds", "rows", "j", "o", "watches", "other", "menu", "paid", "size", "ends", "row"] ["d", "sizes"] (defScope (top 50)) := ⟨rfl, rfl, rfl, by decide +kernel, rfl, by decide +kernel, by decide +kernel⟩
theorem ok__law_wide_house (W : Fx K mg) : FnOkG P w K mg base CX0 3 W.a__law_wide_house W.d__law_wide_house ["d", "sizes"] (spD K 2 c__law_wide_house_k27) :=
  fn_okD W.F__law_wide_house sc__law_wide_house rfl rfl fun cdv A outer s H E hr => (have hN := sc__law_wide_house.nd; (sss_cons (ss_set (sa_call0 (ok__law_pool W) (hr.mono (by decide)) W.g__law_pool W.F__law_pool.kp W.b__law_pool) hN) (sss_cons (ss_set (sa_bin op_addAll s_add sa_int (sa_call (ok__law_draw W) (hr.mono (by decide)) W.g__law_draw W.F__law_draw.kp W.b__law_draw (sas_cons sa_var (sas_cons sa_int sas_nil)))) hN) (sss_cons (ss_set (sa_call (ok__law_pick W) (hr.mono (by decide)) W.g__law_pick W.F__law_pick.kp W.b__law_pick (sas_cons sa_var (sas_cons (sa_lst (sas_cons sa_int (sas_cons sa_int (sas_cons sa_int (sas_cons sa_int sas_nil))))) sas_nil))) hN) (sss_cons (ss_set (sa_call (ok__law_pick W) (hr.mono (by decide)) W.g__law_pick W.F__law_pick.kp W.b__law_pick (sas_cons sa_var (sas_cons (sa_lst (sas_cons sa_int (sas_cons sa_int (sas_cons sa_int sas_nil)))) sas_nil))) hN) (sss_cons (ss_set (sa_callTy call_tuple_ofF s_tuple W.n_tuple (by decide +kernel) (sas_cons (sa_lc rfl hN (si_range1 W.n_range sa_var) (blk_of (own := [("k", 7)]) (by kernel_rfl)) rfl (fun _ _ _ _ _ => (sg_name hN)) (fun _ _ _ _ _ => sts_nil) (fun _ _ _ _ _ => (sa_call (ok__law_pop W) (hr.mono (by decide)) W.g__law_pop W.F__law_pop.kp W.b__law_pop (sas_cons sa_var (sas_cons sa_var sas_nil))))) sas_nil)) hN) (sss_cons (ss_set (sa_lst sas_nil) hN) (sss_cons (ss_for PassesOwn.never rfl (si_range1 W.n_range (sa_callB call_lenAll s_len W.n_len (by decide +kernel) (sas_cons sa_var sas_nil))) (sg_name hN) (sss_cons (ss_set (sa_call0 (ok__law_pool W) (hr.mono (by decide)) W.g__law_pool W.F__law_pool.kp W.b__law_pool) hN) (sss_cons (ss_set (sa_lst sas_nil) hN) (sss_cons (ss_for PassesOwn.never rfl (si_range1 W.n_range (sa_ix (u1 hr) sa_var sa_var)) (sg_name hN) (sss_cons (ss_set (sa_lst sas_nil) hN) (sss_cons (ss_for PassesOwn.never rfl (si_range1 W.n_range (sa_bin op_addAll s_add sa_int (sa_call (ok__law_draw W) (hr.mono (by decide)) W.g__law_draw W.F__law_draw.kp W.b__law_draw (sas_cons sa_var (sas_cons sa_int sas_nil))))) (sg_name hN) (sss_cons (ss_expr (sa_meth PySem.F.slot_list_append PySem.F.type_list_append mt_append s_append (sas_cons (sa_callTy call_tuple_ofF s_tuple W.n_tuple (by decide +kernel) (sas_cons (sa_lc rfl hN (si_range1 W.n_range sa_var) (blk_of (own := [("o", 14)]) (by kernel_rfl)) rfl (fun _ _ _ _ _ => (sg_name hN)) (fun _ _ _ _ _ => sts_nil) (fun _ _ _ _ _ => (sa_bin op_mulAll s_mul (sa_bin op_sub s_sub (sa_call (ok__law_draw W) (hr.mono (by decide)) W.g__law_draw W.F__law_draw.kp W.b__law_draw (sas_cons sa_var (sas_cons sa_var sas_nil))) (sa_bin op_fdiv s_div sa_var sa_int)) sa_var))) sas_nil)) sas_nil))) sss_nil)) (sss_cons (ss_expr (sa_meth PySem.F.slot_list_append PySem.F.type_list_append mt_append s_append (sas_cons (sa_tup (sas_cons (sa_call (ok__law_pop W) (hr.mono (by decide)) W.g__law_pop W.F__law_pop.kp W.b__law_pop (sas_cons sa_var (sas_cons sa_var sas_nil))) (sas_cons (sa_callTy call_tuple_ofF s_tuple W.n_tuple (by decide +kernel) (sas_cons sa_var sas_nil)) sas_nil))) sas_nil))) sss_nil)))) (sss_cons (ss_set (sa_tup sas_nil) hN) (sss_cons (ss_if (st_cmp (op_eqD (u64 hr)) s_eq (nomark _) (sa_call (ok__law_draw W) (hr.mono (by decide)) W.g__law_draw W.F__law_draw.kp W.b__law_draw (sas_cons sa_var (sas_cons sa_int sas_nil))) sa_int bl_eq) (sss_cons (ss_set (sa_callTy call_tuple_ofF s_tuple W.n_tuple (by decide +kernel) (sas_cons (sa_lc rfl hN (si_range1 W.n_range (sa_callB call_lenAll s_len W.n_len (by decide +kernel) (sas_cons sa_var sas_nil))) (blk_of (own := [("other", 16)]) (by kernel_rfl)) rfl (fun _ _ _ _ _ => (sg_name hN)) (fun _ _ _ _ _ => (sts_one (sw_and (st_cmp (op_neD (u64 hr)) s_ne (nomark _) sa_var sa_var bl_ne) (sw_and1 (st_cmp op_gt s_cmp (nomark _) (sa_call (ok__law_draw W) (hr.mono (by decide)) W.g__law_draw W.F__law_draw.kp W.b__law_draw (sas_cons sa_var (sas_cons sa_int sas_nil))) sa_int bl_cmp))).st)) (fun _ _ _ _ _ => sa_var)) sas_nil)) hN) sss_nil) sss_nil) (sss_cons (ss_expr (sa_meth PySem.F.slot_list_append PySem.F.type_list_append mt_append s_append (sas_cons (sa_tup (sas_cons (sa_call (ok__law_pop W) (hr.mono (by decide)) W.g__law_pop W.F__law_pop.kp W.b__law_pop (sas_cons sa_var (sas_cons sa_var sas_nil))) (sas_cons (sa_callTy call_tuple_ofF s_tuple W.n_tuple (by decide +kernel) (sas_cons sa_var sas_nil)) (sas_cons sa_var sas_nil)))) sas_nil))) sss_nil))))))) (sss_cons (ss_set (sa_lst sas_nil) hN) (sss_cons (ss_for PassesOwn.never rfl (si_range1 W.n_range (sa_bin op_addAll s_add sa_int (sa_call (ok__law_draw W) (hr.mono (by decide)) W.g__law_draw W.F__law_draw.kp W.b__law_draw (sas_cons sa_var (sas_cons sa_int sas_nil))))) (sg_name hN) (sss_cons (ss_set (sa_callTy call_tuple_ofF s_tuple W.n_tuple (by decide +kernel) (sas_cons (sa_lc rfl hN (si_seq sa_var) (blk_of (own := [("size", 19)]) (by kernel_rfl)) rfl (fun _ _ _ _ _ => (sg_name hN)) (fun _ _ _ _ _ => sts_nil) (fun _ _ _ _ _ => (sa_bin op_mulAll s_mul (sa_bin op_sub s_sub (sa_call (ok__law_draw W) (hr.mono (by decide)) W.g__law_draw W.F__law_draw.kp W.b__law_draw (sas_cons sa_var (sas_cons sa_var sas_nil))) (sa_bin op_fdiv s_div sa_var sa_int)) sa_var))) sas_nil)) hN) (sss_cons (ss_expr (sa_meth PySem.F.slot_list_append PySem.F.type_list_append mt_append s_append (sas_cons (sa_tup (sas_cons (sa_call (ok__law_draw W) (hr.mono (by decide)) W.g__law_draw W.F__law_draw.kp W.b__law_draw (sas_cons sa_var (sas_cons sa_var sas_nil))) (sas_cons sa_var sas_nil))) sas_nil))) sss_nil))) (sss_cons (ss_set (sa_callTy call_tuple_ofF s_tuple W.n_tuple (by decide +kernel) (sas_cons (sa_lc rfl hN (si_seq (sa_call (ok__law_rows W) (hr.mono (by decide)) W.g__law_rows W.F__law_rows.kp W.b__law_rows (sas_cons (sa_lc rfl hN (si_seq sa_var) (blk_of (own := [("size", 19)]) (by kernel_rfl)) rfl (fun _ _ _ _ _ => (sg_name hN)) (fun _ _ _ _ _ => sts_nil) (fun _ _ _ _ _ => (sa_listRg rfl W.n_list (srg_1 W.n_range sa_var)))) sas_nil))) (blk_of (own := [("row", 21)]) (by kernel_rfl)) rfl (fun _ _ _ _ _ => (sg_name hN)) (fun _ _ _ _ _ => sts_nil) (fun _ _ _ _ _ => (sa_call (ok__law_pick W) (hr.mono (by decide)) W.g__law_pick W.F__law_pick.kp W.b__law_pick (sas_cons sa_var (sas_cons sa_var sas_nil))))) sas_nil)) hN) (sss_cons (ss_ret (sa_tup (sas_cons sa_str (sas_cons sa_var (sas_cons (sa_callTy call_tuple_ofF s_tuple W.n_tuple (by decide +kernel) (sas_cons sa_var sas_nil)) (sas_cons sa_var (sas_cons (sa_call (ok__law_pick W) (hr.mono (by decide)) W.g__law_pick W.F__law_pick.kp W.b__law_pick (sas_cons sa_var (sas_cons (sa_lst (sas_cons sa_int (sas_cons sa_int (sas_cons sa_int sas_nil)))) sas_nil))) sas_nil))))))) sss_nil))))))))))) : SSs _ _ m__law_wide_house_k27)
theorem sc__law_first_of : FnScope ["house", "rows", "person", "kind", "worth", "sign", "best", "row", "value"] ["house", "rows", "person", "kind", "worth", "sign"] (defScope (top 51)) := ⟨rfl, rfl, rfl, by decide +kernel, rfl, by decide +kernel, by decide +kernel⟩
theorem ok__law_first_of (W : Fx K mg) : FnOkG P w K mg base CX0 2 W.a__law_first_of W.d__law_first_of ["house", "rows", "person", "kind", "worth", "sign"] (spD K 6 c__law_first_of) :=
  fn_okD W.F__law_first_of sc__law_first_of rfl rfl fun cdv A outer s H E hr => (have hN := sc__law_first_of.nd; (sss_cons (ss_set sa_non hN) (sss_cons (ss_for PassesOwn.never rfl (si_seq sa_var) (sg_name hN) (sss_cons (ss_set (sa_call (ok__law_value W) (hr.mono (by decide)) W.g__law_value W.F__law_value.kp W.b__law_value (sas_cons sa_var (sas_cons sa_var (sas_cons sa_var (sas_cons sa_var (sas_cons (sa_call (ok__law_end W) (hr.mono (by decide)) W.g__law_end W.F__law_end.kp W.b__law_end (sas_cons sa_var (sas_cons sa_var sas_nil))) sas_nil)))))) hN) (sss_cons (ss_if (sw_or (st_cmp op_isN s_isN (nomark _) sa_var sa_non bl_isN) (sw_or1 (st_cmp op_lt s_cmp (nomark _) (sa_bin op_mulAll s_mul sa_var sa_var) (sa_bin op_mulAll s_mul sa_var (sa_ix (u1 hr) sa_var sa_int)) bl_cmp))).st (sss_cons (ss_set (sa_tup (sas_cons sa_var (sas_cons sa_var sas_nil))) hN) sss_nil) sss_nil) sss_nil))) (sss_cons (ss_ret sa_var) sss_nil))) : SSs _ _ m__law_first_of)
theorem sc__law_case_right : FnScope ["d", "house", "box", "person", "kind", "case", "rows", "row", "worth", "other", "some", "told", "due"] ["d", "house", "box", "person", "kind", "case"] (defScope (top 52)) := ⟨rfl, rfl, rfl, by decide +kernel, rfl, by decide +kernel, by decide +kernel⟩
theorem ok__law_case_right (W : Fx K mg) : FnOkG P w K mg base CX0 7 W.a__law_case_right W.d__law_case_right ["d", "house", "box", "person", "kind", "case"] (spD K 6 c__law_case_right) :=
  fn_okD W.F__law_case_right sc__law_case_right rfl rfl fun cdv A outer s H E hr => (have hN := sc__law_case_right.nd; (sss_cons (ss_setLc rfl hN (si_seq (sa_call (ok__law_rows W) (hr.mono (by decide)) W.g__law_rows W.F__law_rows.kp W.b__law_rows (sas_cons sa_var sas_nil))) (blk_of (own := [("row", 7)]) (by kernel_rfl)) rfl (fun _ _ _ _ _ => (sg_name hN)) (fun _ _ _ _ _ => (sts_one (st_cmp (op_eqD (u64 hr)) s_eq (nomark _) (sa_call (ok__law_case W) (hr.mono (by decide)) W.g__law_case W.F__law_case.kp W.b__law_case (sas_cons sa_var (sas_cons sa_var (sas_cons sa_var sas_nil)))) sa_var bl_eq))) (fun _ _ _ _ _ => sa_var)) (sss_cons (ss_set (sa_call (ok__law_draw W) (hr.mono (by decide)) W.g__law_draw W.F__law_draw.kp W.b__law_draw (sas_cons sa_var (sas_cons (sa_callB call_lenAll s_len W.n_len (by decide +kernel) (sas_cons (sa_ix (u1 hr) (sa_ix (u1 hr) (sa_ix (u1 hr) (sa_ix (u1 hr) (sa_ix (u1 hr) sa_var sa_int) sa_var) sa_int) sa_var) sa_int) sas_nil)) sas_nil))) hN) (sss_cons (ss_for PassesOwn.never rfl (si_seq (sa_ix (u1 hr) sa_var sa_var)) (sg_name hN) (sss_cons (ss_setLc rfl hN (si_seq sa_var) (blk_of (own := [("row", 7)]) (by kernel_rfl)) rfl (fun _ _ _ _ _ => (sg_name hN)) (fun _ _ _ _ _ => (sts_one (st_cmp (op_eqD (u64 hr)) s_eq (nomark _) (sa_ix (u1 hr) sa_var sa_var) sa_var bl_eq))) (fun _ _ _ _ _ => sa_var)) (sss_cons (ss_if (st_cmp (op_eqD (u64 hr)) s_eq (nomark _) sa_var sa_var bl_eq) (sss_cons (ss_set (sa_call (ok_worst_truth W) (hr.mono (by decide)) W.g_worst_truth W.F_worst_truth.kp W.b_worst_truth (sas_cons sa_var (sas_cons sa_var (sas_cons sa_var (sas_cons sa_var (sas_cons sa_var (sas_cons sa_var sas_nil))))))) hN) (sss_cons (ss_set (sa_call (ok__law_first_of W) (hr.mono (by decide)) W.g__law_first_of W.F__law_first_of.kp W.b__law_first_of (sas_cons sa_var (sas_cons sa_var (sas_cons sa_var (sas_cons sa_var (sas_cons sa_var (sas_cons sa_int sas_nil))))))) hN) sss_nil)) (sss_cons (ss_set (sa_call (ok_best_lie W) (hr.mono (by decide)) W.g_best_lie W.F_best_lie.kp W.b_best_lie (sas_cons sa_var (sas_cons sa_var (sas_cons sa_var (sas_cons sa_var (sas_cons sa_var (sas_cons sa_var (sas_cons sa_var sas_nil)))))))) hN) (sss_cons (ss_set (sa_call (ok__law_first_of W) (hr.mono (by decide)) W.g__law_first_of W.F__law_first_of.kp W.b__law_first_of (sas_cons sa_var (sas_cons sa_var (sas_cons sa_var (sas_cons sa_var (sas_cons sa_var (sas_cons (sa_un un_neg s_neg sa_int) sas_nil))))))) hN) sss_nil))) (sss_cons (ss_if (st_cmp (op_neD (u64 hr)) s_ne (nomark _) (sa_callB (call_reprD hr.g (u70 hr)) s_repr W.n_repr (by decide +kernel) (sas_cons sa_var sas_nil)) (sa_callB (call_reprD hr.g (u70 hr)) s_repr W.n_repr (by decide +kernel) (sas_cons sa_var sas_nil)) bl_ne) (sss_cons (ss_ret sa_bl) sss_nil) sss_nil) sss_nil)))) (sss_cons (ss_ret sa_bl) sss_nil)))) : SSs _ _ m__law_case_right)
theorem sc__law_box_right : FnScope ["d", "house", "box", "most", "person", "cases", "other", "kinds", "k", "kind", "asked", "case"] ["d", "house", "box", "most"] (defScope (top 53)) := ⟨rfl, rfl, rfl, by decide +kernel, rfl, by decide +kernel, by decide +kernel⟩
theorem ok__law_box_right (W : Fx K mg) : FnOkG P w K mg base CX0 8 W.a__law_box_right W.d__law_box_right ["d", "house", "box", "most"] (spD K 4 c__law_box_right) :=
  fn_okD W.F__law_box_right sc__law_box_right rfl rfl fun cdv A outer s H E hr => (have hN := sc__law_box_right.nd; (sss_cons (ss_for PassesOwn.never rfl (si_range1 W.n_range (sa_callB call_lenAll s_len W.n_len (by decide +kernel) (sas_cons sa_var sas_nil))) (sg_name hN) (sss_cons (ss_set (sa_call (ok__law_rows W) (hr.mono (by decide)) W.g__law_rows W.F__law_rows.kp W.b__law_rows (sas_cons (sa_lc rfl hN (si_seq (sa_ix (u1 hr) (sa_ix (u1 hr) (sa_ix (u1 hr) sa_var sa_int) sa_var) sa_int)) (blk_of (own := [("other", 6)]) (by kernel_rfl)) rfl (fun _ _ _ _ _ => (sg_name hN)) (fun _ _ _ _ _ => sts_nil) (fun _ _ _ _ _ => (sa_ix (u1 hr) sa_var sa_var))) sas_nil)) hN) (sss_cons (ss_set (sa_callTy call_list_of s_list W.n_list (by decide +kernel) (sas_cons (sa_ix (u1 hr) sa_var sa_var) sas_nil)) hN) (sss_cons (ss_if (st_cmp op_gt s_cmp (nomark _) (sa_callB call_lenAll s_len W.n_len (by decide +kernel) (sas_cons sa_var sas_nil)) sa_var bl_cmp) (sss_cons (ss_set (sa_lc rfl hN (si_range1 W.n_range sa_var) (blk_of (own := [("k", 8)]) (by kernel_rfl)) rfl (fun _ _ _ _ _ => (sg_name hN)) (fun _ _ _ _ _ => sts_nil) (fun _ _ _ _ _ => (sa_call (ok__law_pop W) (hr.mono (by decide)) W.g__law_pop W.F__law_pop.kp W.b__law_pop (sas_cons sa_var (sas_cons sa_var sas_nil))))) hN) sss_nil) sss_nil) (sss_cons (ss_for PassesOwn.never rfl (si_seq sa_var) (sg_name hN) (sss_cons (ss_set sa_fz hN) (sss_cons (ss_if (st_cmp op_gt s_cmp (nomark _) (sa_callB call_lenAll s_len W.n_len (by decide +kernel) (sas_cons sa_var sas_nil)) sa_var bl_cmp) (sss_cons (ss_setLc rfl hN (si_range1 W.n_range sa_var) (blk_of (own := [("k", 8)]) (by kernel_rfl)) rfl (fun _ _ _ _ _ => (sg_name hN)) (fun _ _ _ _ _ => sts_nil) (fun _ _ _ _ _ => (sa_call (ok__law_pick W) (hr.mono (by decide)) W.g__law_pick W.F__law_pick.kp W.b__law_pick (sas_cons sa_var (sas_cons sa_var sas_nil))))) sss_nil) sss_nil) (sss_cons (ss_for PassesOwn.never rfl (si_seq sa_var) (sg_name hN) (sss_cons (ss_if (st_not (st_truth (sa_call (ok__law_case_right W) (hr.mono (by decide)) W.g__law_case_right W.F__law_case_right.kp W.b__law_case_right (sas_cons sa_var (sas_cons sa_var (sas_cons sa_var (sas_cons sa_var (sas_cons sa_var (sas_cons sa_var sas_nil))))))))) (sss_cons (ss_ret sa_bl) sss_nil) sss_nil) sss_nil)) sss_nil)))) sss_nil))))) (sss_cons (ss_ret sa_bl) sss_nil)) : SSs _ _ m__law_box_right)
theorem sc_law : FnScope ["script", "d", "house", "box", "sizes", "inner", "one"] ["script"] (defScope (top 54)) := ⟨rfl, rfl, rfl, by decide +kernel, rfl, by decide +kernel, by decide +kernel⟩
theorem ok_law (W : Fx K mg) : FnOkG P w K mg base CX0 34 W.a_law W.d_law ["script"] (spD K 1 c_law_k27) :=
  fn_okD W.F_law sc_law rfl rfl fun cdv A outer s H E hr => (have hN := sc_law.nd; (sss_cons (ss_set (sa_call (ok__law_begin W) (hr.mono (by decide)) W.g__law_begin W.F__law_begin.kp W.b__law_begin (sas_cons sa_var sas_nil)) hN) (sss_cons (ss_if (st_cmp (op_eqD (u64 hr)) s_eq (nomark _) (sa_call (ok__law_draw W) (hr.mono (by decide)) W.g__law_draw W.F__law_draw.kp W.b__law_draw (sas_cons sa_var (sas_cons sa_int sas_nil))) sa_int bl_eq) (sss_cons (ss_set (sa_call (ok__law_wide_house W) (hr.mono (by decide)) W.g__law_wide_house W.F__law_wide_house.kp W.b__law_wide_house (sas_cons sa_var (sas_cons (sa_call (ok__law_wide_sizes W) (hr.mono (by decide)) W.g__law_wide_sizes W.F__law_wide_sizes.kp W.b__law_wide_sizes (sas_cons sa_var sas_nil)) sas_nil))) hN) (sss_cons (ss_set (sa_call (ok__law_whole W) (hr.mono (by decide)) W.g__law_whole W.F__law_whole.kp W.b__law_whole (sas_cons sa_var sas_nil)) hN) (sss_cons (ss_if (st_cmp (op_eqD (u64 hr)) s_eq (nomark _) (sa_call (ok__law_draw W) (hr.mono (by decide)) W.g__law_draw W.F__law_draw.kp W.b__law_draw (sas_cons sa_var (sas_cons sa_int sas_nil))) sa_int bl_eq) (sss_cons (ss_set (sa_call (ok__law_drawn_box W) (hr.mono (by decide)) W.g__law_drawn_box W.F__law_drawn_box.kp W.b__law_drawn_box (sas_cons sa_var (sas_cons sa_var sas_nil))) hN) sss_nil) sss_nil) (sss_cons (ss_ret (sa_call (ok__law_box_right W) (hr.mono (by decide)) W.g__law_box_right W.F__law_box_right.kp W.b__law_box_right (sas_cons sa_var (sas_cons sa_var (sas_cons sa_var (sas_cons sa_int sas_nil)))))) sss_nil)))) sss_nil) (sss_cons (ss_set (sa_call (ok__law_sizes W) (hr.mono (by decide)) W.g__law_sizes W.F__law_sizes.kp W.b__law_sizes (sas_cons sa_var (sas_cons sa_int sas_nil))) hN) (sss_cons (ss_if (st_cmp (op_eqD (u64 hr)) s_eq (nomark _) (sa_call (ok__law_draw W) (hr.mono (by decide)) W.g__law_draw W.F__law_draw.kp W.b__law_draw (sas_cons sa_var (sas_cons sa_int sas_nil))) sa_int bl_eq) (sss_cons (ss_set (sa_ix (u1 hr) (sa_call (ok__law_heard_house W) (hr.mono (by decide)) W.g__law_heard_house W.F__law_heard_house.kp W.b__law_heard_house (sas_cons sa_var (sas_cons sa_var (sas_cons sa_int (sas_cons (sa_call (ok__law_draw W) (hr.mono (by decide)) W.g__law_draw W.F__law_draw.kp W.b__law_draw (sas_cons sa_var (sas_cons sa_int sas_nil))) sas_nil))))) sa_int) hN) sss_nil) (sss_cons (ss_set (sa_call (ok__law_house W) (hr.mono (by decide)) W.g__law_house W.F__law_house.kp W.b__law_house (sas_cons sa_var (sas_cons sa_var (sas_cons (sa_bin op_addAll s_add sa_int (sa_call (ok__law_draw W) (hr.mono (by decide)) W.g__law_draw W.F__law_draw.kp W.b__law_draw (sas_cons sa_var (sas_cons sa_int sas_nil)))) (sas_cons sa_int (sas_cons (sa_call (ok__law_draw W) (hr.mono (by decide)) W.g__law_draw W.F__law_draw.kp W.b__law_draw (sas_cons sa_var (sas_cons sa_int sas_nil))) sas_nil)))))) hN) sss_nil)) (sss_cons (ss_set (sa_call (ok__law_whole W) (hr.mono (by decide)) W.g__law_whole W.F__law_whole.kp W.b__law_whole (sas_cons sa_var sas_nil)) hN) (sss_cons (ss_set (sa_call (ok__law_drawn_box W) (hr.mono (by decide)) W.g__law_drawn_box W.F__law_drawn_box.kp W.b__law_drawn_box (sas_cons sa_var (sas_cons sa_var sas_nil))) hN) (sss_cons (ss_for PassesOwn.never rfl (si_seq (sa_lst (sas_cons sa_var (sas_cons sa_var (sas_cons sa_var sas_nil))))) (sg_name hN) (sss_cons (ss_if (st_not (st_truth (sa_call (ok__law_box_right W) (hr.mono (by decide)) W.g__law_box_right W.F__law_box_right.kp W.b__law_box_right (sas_cons sa_var (sas_cons sa_var (sas_cons sa_var (sas_cons sa_int sas_nil))))))) (sss_cons (ss_ret sa_bl) sss_nil) sss_nil) sss_nil)) (sss_cons (ss_ret sa_bl) sss_nil)))))))) : SSs _ _ m_law_k27)
end
end P_k27

namespace P_k27
open Z PySem PySem.Spec PyProof.Rows L2 S
def h_count_of : He.DefD := ⟨("count_of", none), "count_of", "count_of", defArgs (top 1), defBody (top 1), defScope (top 1), [], []⟩
def h_kinds_of : He.DefD := ⟨("kinds_of", none), "kinds_of", "kinds_of", defArgs (top 2), defBody (top 2), defScope (top 2), [], []⟩
def h_watches_of : He.DefD := ⟨("watches_of", none), "watches_of", "watches_of", defArgs (top 3), defBody (top 3), defScope (top 3), [], []⟩
def h_combined : He.DefD := ⟨("combined", none), "combined", "combined", defArgs (top 4), defBody (top 4), defScope (top 4), [], []⟩
def h_rows_of : He.DefD := ⟨("rows_of", none), "rows_of", "rows_of", defArgs (top 5), defBody (top 5), defScope (top 5), [], []⟩
def h_narrowed : He.DefD := ⟨("narrowed", none), "narrowed", "narrowed", defArgs (top 6), defBody (top 6), defScope (top 6), [], []⟩
def h_row_number : He.DefD := ⟨("row_number", none), "row_number", "row_number", defArgs (top 7), defBody (top 7), defScope (top 7), [], []⟩
def h_end_of : He.DefD := ⟨("end_of", none), "end_of", "end_of", defArgs (top 8), defBody (top 8), defScope (top 8), [], []⟩
def h_worths_of : He.DefD := ⟨("worths_of", none), "worths_of", "worths_of", defArgs (top 10), defBody (top 10), defScope (top 10), [], []⟩
def h_row_worths : He.DefD := ⟨("row_worths", none), "row_worths", "row_worths", defArgs (top 11), defBody (top 11), defScope (top 11), [], []⟩
def h_payment_of : He.DefD := ⟨("payment_of", none), "payment_of", "payment_of", defArgs (top 12), defBody (top 12), defScope (top 12), [], []⟩
def h_value_by : He.DefD := ⟨("value_by", none), "value_by", "value_by", defArgs (top 13), defBody (top 13), defScope (top 13), [], []⟩
def h_value_of : He.DefD := ⟨("value_of", none), "value_of", "value_of", defArgs (top 14), defBody (top 14), defScope (top 14), [], []⟩
def h_case_box : He.DefD := ⟨("case_box", none), "case_box", "case_box", defArgs (top 16), defBody (top 16), defScope (top 16), [], []⟩
def h_rows_saying : He.DefD := ⟨("rows_saying", none), "rows_saying", "rows_saying", defArgs (top 17), defBody (top 17), defScope (top 17), [], []⟩
def h_valued_rows : He.DefD := ⟨("valued_rows", none), "valued_rows", "valued_rows", defArgs (top 18), defBody (top 18), defScope (top 18), [], []⟩
def h_first_least : He.DefD := ⟨("first_least", none), "first_least", "first_least", defArgs (top 19), defBody (top 19), defScope (top 19), [], []⟩
def h_first_greatest : He.DefD := ⟨("first_greatest", none), "first_greatest", "first_greatest", defArgs (top 20), defBody (top 20), defScope (top 20), [], []⟩
def h_worst_truth : He.DefD := ⟨("worst_truth", none), "worst_truth", "worst_truth", defArgs (top 21), defBody (top 21), defScope (top 21), [], []⟩
def h_best_lie : He.DefD := ⟨("best_lie", none), "best_lie", "best_lie", defArgs (top 22), defBody (top 22), defScope (top 22), [], []⟩
def h__law_begin : He.DefD := ⟨("_law_begin", none), "_law_begin", "_law_begin", defArgs (top 24), defBody (top 24), defScope (top 24), [], []⟩
def h__law_draw : He.DefD := ⟨("_law_draw", none), "_law_draw", "_law_draw", defArgs (top 25), defBody (top 25), defScope (top 25), [], []⟩
def h__law_pick : He.DefD := ⟨("_law_pick", none), "_law_pick", "_law_pick", defArgs (top 26), defBody (top 26), defScope (top 26), [], []⟩
def h__law_pop : He.DefD := ⟨("_law_pop", none), "_law_pop", "_law_pop", defArgs (top 27), defBody (top 27), defScope (top 27), [], []⟩
def h__law_shuffled : He.DefD := ⟨("_law_shuffled", none), "_law_shuffled", "_law_shuffled", defArgs (top 28), defBody (top 28), defScope (top 28), [], []⟩
def h__law_pool : He.DefD := ⟨("_law_pool", none), "_law_pool", "_law_pool", defArgs (top 29), defBody (top 29), defScope (top 29), [], []⟩
def h__law_number : He.DefD := ⟨("_law_number", none), "_law_number", "_law_number", defArgs (top 30), defBody (top 30), defScope (top 30), [], []⟩
def h__law_sizes : He.DefD := ⟨("_law_sizes", none), "_law_sizes", "_law_sizes", defArgs (top 31), defBody (top 31), defScope (top 31), [], []⟩
def h__law_rows : He.DefD := ⟨("_law_rows", none), "_law_rows", "_law_rows", defArgs (top 32), defBody (top 32), defScope (top 32), [], []⟩
def h__law_watching : He.DefD := ⟨("_law_watching", none), "_law_watching", "_law_watching", defArgs (top 33), defBody (top 33), defScope (top 33), [], []⟩
def h__law_house : He.DefD := ⟨("_law_house", none), "_law_house", "_law_house", defArgs (top 34), defBody (top 34), defScope (top 34), [], []⟩
def h__law_parts : He.DefD := ⟨("_law_parts", none), "_law_parts", "_law_parts", defArgs (top 35), defBody (top 35), defScope (top 35), [], []⟩
def h__law_narrowed : He.DefD := ⟨("_law_narrowed", none), "_law_narrowed", "_law_narrowed", defArgs (top 36), defBody (top 36), defScope (top 36), [], []⟩
def h__law_hearing : He.DefD := ⟨("_law_hearing", none), "_law_hearing", "_law_hearing", defArgs (top 37), defBody (top 37), defScope (top 37), [], []⟩
def h__law_nodes : He.DefD := ⟨("_law_nodes", none), "_law_nodes", "_law_nodes", defArgs (top 38), defBody (top 38), defScope (top 38), [], []⟩
def h__law_leaves : He.DefD := ⟨("_law_leaves", none), "_law_leaves", "_law_leaves", defArgs (top 39), defBody (top 39), defScope (top 39), [], []⟩
def h__law_run : He.DefD := ⟨("_law_run", none), "_law_run", "_law_run", defArgs (top 40), defBody (top 40), defScope (top 40), [], []⟩
def h__law_whole : He.DefD := ⟨("_law_whole", none), "_law_whole", "_law_whole", defArgs (top 41), defBody (top 41), defScope (top 41), [], []⟩
def h__law_end : He.DefD := ⟨("_law_end", none), "_law_end", "_law_end", defArgs (top 42), defBody (top 42), defScope (top 42), [], []⟩
def h__law_value : He.DefD := ⟨("_law_value", none), "_law_value", "_law_value", defArgs (top 43), defBody (top 43), defScope (top 43), [], []⟩
def h__law_case : He.DefD := ⟨("_law_case", none), "_law_case", "_law_case", defArgs (top 44), defBody (top 44), defScope (top 44), [], []⟩
def h__law_parting_person : He.DefD := ⟨("_law_parting_person", none), "_law_parting_person", "_law_parting_person", defArgs (top 45), defBody (top 45), defScope (top 45), [], []⟩
def h__law_heard_values : He.DefD := ⟨("_law_heard_values", none), "_law_heard_values", "_law_heard_values", defArgs (top 46), defBody (top 46), defScope (top 46), [], []⟩
def h__law_heard_house : He.DefD := ⟨("_law_heard_house", none), "_law_heard_house", "_law_heard_house", defArgs (top 47), defBody (top 47), defScope (top 47), [], []⟩
def h__law_drawn_box : He.DefD := ⟨("_law_drawn_box", none), "_law_drawn_box", "_law_drawn_box", defArgs (top 48), defBody (top 48), defScope (top 48), [], []⟩
def h__law_wide_sizes : He.DefD := ⟨("_law_wide_sizes", none), "_law_wide_sizes", "_law_wide_sizes", defArgs (top 49), defBody (top 49), defScope (top 49), [], []⟩
def h__law_wide_house : He.DefD := ⟨("_law_wide_house", none), "_law_wide_house", "_law_wide_house", defArgs (top 50), defBody (top 50), defScope (top 50), [], []⟩
def h__law_first_of : He.DefD := ⟨("_law_first_of", none), "_law_first_of", "_law_first_of", defArgs (top 51), defBody (top 51), defScope (top 51), [], []⟩
def h__law_case_right : He.DefD := ⟨("_law_case_right", none), "_law_case_right", "_law_case_right", defArgs (top 52), defBody (top 52), defScope (top 52), [], []⟩
def h__law_box_right : He.DefD := ⟨("_law_box_right", none), "_law_box_right", "_law_box_right", defArgs (top 53), defBody (top 53), defScope (top 53), [], []⟩
def h_law : He.DefD := ⟨("law", none), "law", "law", defArgs (top 54), defBody (top 54), defScope (top 54), [], []⟩
def fn : List He.DefD := [h_count_of, h_kinds_of, h_watches_of, h_combined, h_rows_of, h_narrowed, h_row_number, h_end_of, h_worths_of, h_row_worths, h_payment_of, h_value_by, h_value_of, h_case_box, h_rows_saying, h_valued_rows, h_first_least, h_first_greatest, h_worst_truth, h_best_lie, h__law_begin, h__law_draw, h__law_pick, h__law_pop, h__law_shuffled, h__law_pool, h__law_number, h__law_sizes, h__law_rows, h__law_watching, h__law_house, h__law_parts, h__law_narrowed, h__law_hearing, h__law_nodes, h__law_leaves, h__law_run, h__law_whole, h__law_end, h__law_value, h__law_case, h__law_parting_person, h__law_heard_values, h__law_heard_house, h__law_drawn_box, h__law_wide_sizes, h__law_wide_house, h__law_first_of, h__law_case_right, h__law_box_right, h_law]
def fa : List He.Fa := (([.glo "count_of", .glo "kinds_of", .glo "watches_of", .glo "combined", .glo "rows_of", .glo "narrowed", .glo "row_number", .glo "end_of", .glo "worths_of", .glo "row_worths", .glo "payment_of", .glo "value_by", .glo "value_of", .glo "case_box", .glo "rows_saying", .glo "valued_rows"] : List He.Fa) ++ ([.glo "first_least", .glo "first_greatest", .glo "worst_truth", .glo "best_lie", .glo "_law_begin", .glo "_law_draw", .glo "_law_pick", .glo "_law_pop", .glo "_law_shuffled", .glo "_law_pool", .glo "_law_number", .glo "_law_sizes", .glo "_law_rows", .glo "_law_watching", .glo "_law_house", .glo "_law_parts"] : List He.Fa) ++ ([.glo "_law_narrowed", .glo "_law_hearing", .glo "_law_nodes", .glo "_law_leaves", .glo "_law_run", .glo "_law_whole", .glo "_law_end", .glo "_law_value", .glo "_law_case", .glo "_law_parting_person", .glo "_law_heard_values", .glo "_law_heard_house", .glo "_law_drawn_box", .glo "_law_wide_sizes", .glo "_law_wide_house", .glo "_law_first_of"] : List He.Fa) ++ ([.glo "_law_case_right", .glo "_law_box_right", .glo "law", .free "abs", .free "int", .free "len", .free "list", .free "max", .free "min", .free "range", .free "repr", .free "tuple"] : List He.Fa))
abbrev R : PySem.W.OpenRow := PySem.W.OpenLaw.row PySem.Challenge.rw_plainhearing_k27_worst_and_best
abbrev hk : PySem.W.Hook := He.hookD 4 fa fn
def ob (s : PySem.W.SharedT) : He.AlD := He.obsDG 4 fa fn (HandSHeadRun.getT s)
theorem ob_eq (s : PySem.W.SharedT) : ob s = hk.obs s.abs := He.obsDG_eq (HandSHeadRun.getT_eq s)
theorem run (w : World) : HandSHeadRun.RunEq R (PySem.W.view R.prog [54]) hk ob 4300 ((["count_of", "kinds_of", "watches_of", "combined", "rows_of", "narrowed", "row_number", "end_of", "worths_of", "row_worths", "payment_of", "value_by", "value_of", "case_box", "rows_saying", "valued_rows"] : List PySem.Str) ++ (["first_least", "first_greatest", "worst_truth", "best_lie", "_law_begin", "_law_draw", "_law_pick", "_law_pop", "_law_shuffled", "_law_pool", "_law_number", "_law_sizes", "_law_rows", "_law_watching", "_law_house", "_law_parts"] : List PySem.Str) ++ (["_law_narrowed", "_law_hearing", "_law_nodes", "_law_leaves", "_law_run", "_law_whole", "_law_end", "_law_value", "_law_case", "_law_parting_person", "_law_heard_values", "_law_heard_house", "_law_drawn_box", "_law_wide_sizes", "_law_wide_house", "_law_first_of"] : List PySem.Str) ++ (["_law_case_right", "_law_box_right"] : List PySem.Str)) w := by
  intro os
  kernel_rfl
theorem facts {P : Program} {w : World} {K : PySem.W.Frag} {h : Heap} {mg : Str → Option Value} {f : Addr} (X : K.In h) (G : h.Ns mainGlobals mg) (hfa : mg ("law" : Str) = some (.ref f)) (c : He.SaysD fa fn K) :
    ∃ fd : FuncData, (∀ (s : Shared) (v : Value), BindsTo s fd ⟨[v], []⟩ [("script", v)]) ∧ ∀ base : Heap, K.In base → base.Ns mainGlobals mg → FnOkG P w K mg base CX0 34 f fd ["script"] (spD K 1 c_law_k27) := by
  obtain ⟨d_count_of, F_count_of⟩ := c.def_ 0 (d := h_count_of) rfl
  obtain ⟨d_kinds_of, F_kinds_of⟩ := c.def_ 1 (d := h_kinds_of) rfl
  obtain ⟨d_watches_of, F_watches_of⟩ := c.def_ 2 (d := h_watches_of) rfl
  obtain ⟨d_combined, F_combined⟩ := c.def_ 3 (d := h_combined) rfl
  obtain ⟨d_rows_of, F_rows_of⟩ := c.def_ 4 (d := h_rows_of) rfl
  obtain ⟨d_narrowed, F_narrowed⟩ := c.def_ 5 (d := h_narrowed) rfl
  obtain ⟨d_row_number, F_row_number⟩ := c.def_ 6 (d := h_row_number) rfl
  obtain ⟨d_end_of, F_end_of⟩ := c.def_ 7 (d := h_end_of) rfl
  obtain ⟨d_worths_of, F_worths_of⟩ := c.def_ 8 (d := h_worths_of) rfl
  obtain ⟨d_row_worths, F_row_worths⟩ := c.def_ 9 (d := h_row_worths) rfl
  obtain ⟨d_payment_of, F_payment_of⟩ := c.def_ 10 (d := h_payment_of) rfl
  obtain ⟨d_value_by, F_value_by⟩ := c.def_ 11 (d := h_value_by) rfl
  obtain ⟨d_value_of, F_value_of⟩ := c.def_ 12 (d := h_value_of) rfl
  obtain ⟨d_case_box, F_case_box⟩ := c.def_ 13 (d := h_case_box) rfl
  obtain ⟨d_rows_saying, F_rows_saying⟩ := c.def_ 14 (d := h_rows_saying) rfl
  obtain ⟨d_valued_rows, F_valued_rows⟩ := c.def_ 15 (d := h_valued_rows) rfl
  obtain ⟨d_first_least, F_first_least⟩ := c.def_ 16 (d := h_first_least) rfl
  obtain ⟨d_first_greatest, F_first_greatest⟩ := c.def_ 17 (d := h_first_greatest) rfl
  obtain ⟨d_worst_truth, F_worst_truth⟩ := c.def_ 18 (d := h_worst_truth) rfl
  obtain ⟨d_best_lie, F_best_lie⟩ := c.def_ 19 (d := h_best_lie) rfl
  obtain ⟨d__law_begin, F__law_begin⟩ := c.def_ 20 (d := h__law_begin) rfl
  obtain ⟨d__law_draw, F__law_draw⟩ := c.def_ 21 (d := h__law_draw) rfl
  obtain ⟨d__law_pick, F__law_pick⟩ := c.def_ 22 (d := h__law_pick) rfl
  obtain ⟨d__law_pop, F__law_pop⟩ := c.def_ 23 (d := h__law_pop) rfl
  obtain ⟨d__law_shuffled, F__law_shuffled⟩ := c.def_ 24 (d := h__law_shuffled) rfl
  obtain ⟨d__law_pool, F__law_pool⟩ := c.def_ 25 (d := h__law_pool) rfl
  obtain ⟨d__law_number, F__law_number⟩ := c.def_ 26 (d := h__law_number) rfl
  obtain ⟨d__law_sizes, F__law_sizes⟩ := c.def_ 27 (d := h__law_sizes) rfl
  obtain ⟨d__law_rows, F__law_rows⟩ := c.def_ 28 (d := h__law_rows) rfl
  obtain ⟨d__law_watching, F__law_watching⟩ := c.def_ 29 (d := h__law_watching) rfl
  obtain ⟨d__law_house, F__law_house⟩ := c.def_ 30 (d := h__law_house) rfl
  obtain ⟨d__law_parts, F__law_parts⟩ := c.def_ 31 (d := h__law_parts) rfl
  obtain ⟨d__law_narrowed, F__law_narrowed⟩ := c.def_ 32 (d := h__law_narrowed) rfl
  obtain ⟨d__law_hearing, F__law_hearing⟩ := c.def_ 33 (d := h__law_hearing) rfl
  obtain ⟨d__law_nodes, F__law_nodes⟩ := c.def_ 34 (d := h__law_nodes) rfl
  obtain ⟨d__law_leaves, F__law_leaves⟩ := c.def_ 35 (d := h__law_leaves) rfl
  obtain ⟨d__law_run, F__law_run⟩ := c.def_ 36 (d := h__law_run) rfl
  obtain ⟨d__law_whole, F__law_whole⟩ := c.def_ 37 (d := h__law_whole) rfl
  obtain ⟨d__law_end, F__law_end⟩ := c.def_ 38 (d := h__law_end) rfl
  obtain ⟨d__law_value, F__law_value⟩ := c.def_ 39 (d := h__law_value) rfl
  obtain ⟨d__law_case, F__law_case⟩ := c.def_ 40 (d := h__law_case) rfl
  obtain ⟨d__law_parting_person, F__law_parting_person⟩ := c.def_ 41 (d := h__law_parting_person) rfl
  obtain ⟨d__law_heard_values, F__law_heard_values⟩ := c.def_ 42 (d := h__law_heard_values) rfl
  obtain ⟨d__law_heard_house, F__law_heard_house⟩ := c.def_ 43 (d := h__law_heard_house) rfl
  obtain ⟨d__law_drawn_box, F__law_drawn_box⟩ := c.def_ 44 (d := h__law_drawn_box) rfl
  obtain ⟨d__law_wide_sizes, F__law_wide_sizes⟩ := c.def_ 45 (d := h__law_wide_sizes) rfl
  obtain ⟨d__law_wide_house, F__law_wide_house⟩ := c.def_ 46 (d := h__law_wide_house) rfl
  obtain ⟨d__law_first_of, F__law_first_of⟩ := c.def_ 47 (d := h__law_first_of) rfl
  obtain ⟨d__law_case_right, F__law_case_right⟩ := c.def_ 48 (d := h__law_case_right) rfl
  obtain ⟨d__law_box_right, F__law_box_right⟩ := c.def_ 49 (d := h__law_box_right) rfl
  obtain ⟨d_law, F_law⟩ := c.def_ 50 (d := h_law) rfl
  have e := hfa.symm.trans (He.glo_ok X G (c.fact 50 (f := .glo "law") rfl))
  cases e
  have b := FunD.bindsA (ps := ["script"]) F_law fun _ _ _ _ _ _ us hl => match us, hl with | [_], _ => rfl
  refine ⟨d_law, fun s v => b s [v] rfl, fun base _ _ => ?_⟩
  exact ok_law {
    a_count_of := _, d_count_of := d_count_of, F_count_of := F_count_of, g_count_of := He.glo_ok X G (c.fact 0 (f := .glo "count_of") rfl), b_count_of := (FunD.bindsN F_count_of fun _ _ _ _ _ _ us hl => match us, hl with | [_], _ => rfl),
    a_kinds_of := _, d_kinds_of := d_kinds_of, F_kinds_of := F_kinds_of, g_kinds_of := He.glo_ok X G (c.fact 1 (f := .glo "kinds_of") rfl), b_kinds_of := (FunD.bindsN F_kinds_of fun _ _ _ _ _ _ us hl => match us, hl with | [_, _], _ => rfl),
    a_watches_of := _, d_watches_of := d_watches_of, F_watches_of := F_watches_of, g_watches_of := He.glo_ok X G (c.fact 2 (f := .glo "watches_of") rfl), b_watches_of := (FunD.bindsN F_watches_of fun _ _ _ _ _ _ us hl => match us, hl with | [_, _], _ => rfl),
    a_combined := _, d_combined := d_combined, F_combined := F_combined, g_combined := He.glo_ok X G (c.fact 3 (f := .glo "combined") rfl), b_combined := (FunD.bindsN F_combined fun _ _ _ _ _ _ us hl => match us, hl with | [_], _ => rfl),
    a_rows_of := _, d_rows_of := d_rows_of, F_rows_of := F_rows_of, g_rows_of := He.glo_ok X G (c.fact 4 (f := .glo "rows_of") rfl), b_rows_of := (FunD.bindsN F_rows_of fun _ _ _ _ _ _ us hl => match us, hl with | [_], _ => rfl),
    a_narrowed := _, d_narrowed := d_narrowed, F_narrowed := F_narrowed, g_narrowed := He.glo_ok X G (c.fact 5 (f := .glo "narrowed") rfl), b_narrowed := (FunD.bindsN F_narrowed fun _ _ _ _ _ _ us hl => match us, hl with | [_, _, _], _ => rfl),
    a_row_number := _, d_row_number := d_row_number, F_row_number := F_row_number, g_row_number := He.glo_ok X G (c.fact 6 (f := .glo "row_number") rfl), b_row_number := (FunD.bindsN F_row_number fun _ _ _ _ _ _ us hl => match us, hl with | [_, _], _ => rfl),
    a_end_of := _, d_end_of := d_end_of, F_end_of := F_end_of, g_end_of := He.glo_ok X G (c.fact 7 (f := .glo "end_of") rfl), b_end_of := (FunD.bindsN F_end_of fun _ _ _ _ _ _ us hl => match us, hl with | [_, _], _ => rfl),
    a_worths_of := _, d_worths_of := d_worths_of, F_worths_of := F_worths_of, g_worths_of := He.glo_ok X G (c.fact 8 (f := .glo "worths_of") rfl), b_worths_of := (FunD.bindsN F_worths_of fun _ _ _ _ _ _ us hl => match us, hl with | [_, _, _], _ => rfl),
    a_row_worths := _, d_row_worths := d_row_worths, F_row_worths := F_row_worths, g_row_worths := He.glo_ok X G (c.fact 9 (f := .glo "row_worths") rfl), b_row_worths := (FunD.bindsN F_row_worths fun _ _ _ _ _ _ us hl => match us, hl with | [_, _, _, _], _ => rfl),
    a_payment_of := _, d_payment_of := d_payment_of, F_payment_of := F_payment_of, g_payment_of := He.glo_ok X G (c.fact 10 (f := .glo "payment_of") rfl), b_payment_of := (FunD.bindsN F_payment_of fun _ _ _ _ _ _ us hl => match us, hl with | [_, _], _ => rfl),
    a_value_by := _, d_value_by := d_value_by, F_value_by := F_value_by, g_value_by := He.glo_ok X G (c.fact 11 (f := .glo "value_by") rfl), b_value_by := (FunD.bindsN F_value_by fun _ _ _ _ _ _ us hl => match us, hl with | [_, _, _], _ => rfl),
    a_value_of := _, d_value_of := d_value_of, F_value_of := F_value_of, g_value_of := He.glo_ok X G (c.fact 12 (f := .glo "value_of") rfl), b_value_of := (FunD.bindsN F_value_of fun _ _ _ _ _ _ us hl => match us, hl with | [_, _, _, _, _], _ => rfl),
    a_case_box := _, d_case_box := d_case_box, F_case_box := F_case_box, g_case_box := He.glo_ok X G (c.fact 13 (f := .glo "case_box") rfl), b_case_box := (FunD.bindsN F_case_box fun _ _ _ _ _ _ us hl => match us, hl with | [_, _, _, _], _ => rfl),
    a_rows_saying := _, d_rows_saying := d_rows_saying, F_rows_saying := F_rows_saying, g_rows_saying := He.glo_ok X G (c.fact 14 (f := .glo "rows_saying") rfl), b_rows_saying := (FunD.bindsN F_rows_saying fun _ _ _ _ _ _ us hl => match us, hl with | [_, _, _, _, _], _ => rfl),
    a_valued_rows := _, d_valued_rows := d_valued_rows, F_valued_rows := F_valued_rows, g_valued_rows := He.glo_ok X G (c.fact 15 (f := .glo "valued_rows") rfl), b_valued_rows := (FunD.bindsN F_valued_rows fun _ _ _ _ _ _ us hl => match us, hl with | [_, _, _, _, _], _ => rfl),
    a_first_least := _, d_first_least := d_first_least, F_first_least := F_first_least, g_first_least := He.glo_ok X G (c.fact 16 (f := .glo "first_least") rfl), b_first_least := (FunD.bindsN F_first_least fun _ _ _ _ _ _ us hl => match us, hl with | [_], _ => rfl),
    a_first_greatest := _, d_first_greatest := d_first_greatest, F_first_greatest := F_first_greatest, g_first_greatest := He.glo_ok X G (c.fact 17 (f := .glo "first_greatest") rfl), b_first_greatest := (FunD.bindsN F_first_greatest fun _ _ _ _ _ _ us hl => match us, hl with | [_], _ => rfl),
    a_worst_truth := _, d_worst_truth := d_worst_truth, F_worst_truth := F_worst_truth, g_worst_truth := He.glo_ok X G (c.fact 18 (f := .glo "worst_truth") rfl), b_worst_truth := (FunD.bindsN F_worst_truth fun _ _ _ _ _ _ us hl => match us, hl with | [_, _, _, _, _, _], _ => rfl),
    a_best_lie := _, d_best_lie := d_best_lie, F_best_lie := F_best_lie, g_best_lie := He.glo_ok X G (c.fact 19 (f := .glo "best_lie") rfl), b_best_lie := (FunD.bindsN F_best_lie fun _ _ _ _ _ _ us hl => match us, hl with | [_, _, _, _, _, _, _], _ => rfl),
    a__law_begin := _, d__law_begin := d__law_begin, F__law_begin := F__law_begin, g__law_begin := He.glo_ok X G (c.fact 20 (f := .glo "_law_begin") rfl), b__law_begin := (FunD.bindsN F__law_begin fun _ _ _ _ _ _ us hl => match us, hl with | [_], _ => rfl),
    a__law_draw := _, d__law_draw := d__law_draw, F__law_draw := F__law_draw, g__law_draw := He.glo_ok X G (c.fact 21 (f := .glo "_law_draw") rfl), b__law_draw := (FunD.bindsN F__law_draw fun _ _ _ _ _ _ us hl => match us, hl with | [_, _], _ => rfl),
    a__law_pick := _, d__law_pick := d__law_pick, F__law_pick := F__law_pick, g__law_pick := He.glo_ok X G (c.fact 22 (f := .glo "_law_pick") rfl), b__law_pick := (FunD.bindsN F__law_pick fun _ _ _ _ _ _ us hl => match us, hl with | [_, _], _ => rfl),
    a__law_pop := _, d__law_pop := d__law_pop, F__law_pop := F__law_pop, g__law_pop := He.glo_ok X G (c.fact 23 (f := .glo "_law_pop") rfl), b__law_pop := (FunD.bindsN F__law_pop fun _ _ _ _ _ _ us hl => match us, hl with | [_, _], _ => rfl),
    a__law_shuffled := _, d__law_shuffled := d__law_shuffled, F__law_shuffled := F__law_shuffled, g__law_shuffled := He.glo_ok X G (c.fact 24 (f := .glo "_law_shuffled") rfl), b__law_shuffled := (FunD.bindsN F__law_shuffled fun _ _ _ _ _ _ us hl => match us, hl with | [_, _], _ => rfl),
    a__law_pool := _, d__law_pool := d__law_pool, F__law_pool := F__law_pool, g__law_pool := He.glo_ok X G (c.fact 25 (f := .glo "_law_pool") rfl), b__law_pool := (FunD.bindsN F__law_pool fun _ _ _ _ _ _ us hl => match us, hl with | [], _ => rfl),
    a__law_number := _, d__law_number := d__law_number, F__law_number := F__law_number, g__law_number := He.glo_ok X G (c.fact 26 (f := .glo "_law_number") rfl), b__law_number := (FunD.bindsN F__law_number fun _ _ _ _ _ _ us hl => match us, hl with | [_], _ => rfl),
    a__law_sizes := _, d__law_sizes := d__law_sizes, F__law_sizes := F__law_sizes, g__law_sizes := He.glo_ok X G (c.fact 27 (f := .glo "_law_sizes") rfl), b__law_sizes := (FunD.bindsN F__law_sizes fun _ _ _ _ _ _ us hl => match us, hl with | [_, _], _ => rfl),
    a__law_rows := _, d__law_rows := d__law_rows, F__law_rows := F__law_rows, g__law_rows := He.glo_ok X G (c.fact 28 (f := .glo "_law_rows") rfl), b__law_rows := (FunD.bindsN F__law_rows fun _ _ _ _ _ _ us hl => match us, hl with | [_], _ => rfl),
    a__law_watching := _, d__law_watching := d__law_watching, F__law_watching := F__law_watching, g__law_watching := He.glo_ok X G (c.fact 29 (f := .glo "_law_watching") rfl), b__law_watching := (FunD.bindsN F__law_watching fun _ _ _ _ _ _ us hl => match us, hl with | [_, _, _], _ => rfl),
    a__law_house := _, d__law_house := d__law_house, F__law_house := F__law_house, g__law_house := He.glo_ok X G (c.fact 30 (f := .glo "_law_house") rfl), b__law_house := (FunD.bindsN F__law_house fun _ _ _ _ _ _ us hl => match us, hl with | [_, _, _, _, _], _ => rfl),
    a__law_parts := _, d__law_parts := d__law_parts, F__law_parts := F__law_parts, g__law_parts := He.glo_ok X G (c.fact 31 (f := .glo "_law_parts") rfl), b__law_parts := (FunD.bindsN F__law_parts fun _ _ _ _ _ _ us hl => match us, hl with | [_, _], _ => rfl),
    a__law_narrowed := _, d__law_narrowed := d__law_narrowed, F__law_narrowed := F__law_narrowed, g__law_narrowed := He.glo_ok X G (c.fact 32 (f := .glo "_law_narrowed") rfl), b__law_narrowed := (FunD.bindsN F__law_narrowed fun _ _ _ _ _ _ us hl => match us, hl with | [_, _, _], _ => rfl),
    a__law_hearing := _, d__law_hearing := d__law_hearing, F__law_hearing := F__law_hearing, g__law_hearing := He.glo_ok X G (c.fact 33 (f := .glo "_law_hearing") rfl), b__law_hearing := (FunD.bindsN F__law_hearing fun _ _ _ _ _ _ us hl => match us, hl with | [_, _, _], _ => rfl),
    a__law_nodes := _, d__law_nodes := d__law_nodes, F__law_nodes := F__law_nodes, g__law_nodes := He.glo_ok X G (c.fact 34 (f := .glo "_law_nodes") rfl), b__law_nodes := (FunD.bindsN F__law_nodes fun _ _ _ _ _ _ us hl => match us, hl with | [_, _], _ => rfl),
    a__law_leaves := _, d__law_leaves := d__law_leaves, F__law_leaves := F__law_leaves, g__law_leaves := He.glo_ok X G (c.fact 35 (f := .glo "_law_leaves") rfl), b__law_leaves := (FunD.bindsN F__law_leaves fun _ _ _ _ _ _ us hl => match us, hl with | [_, _], _ => rfl),
    a__law_run := _, d__law_run := d__law_run, F__law_run := F__law_run, g__law_run := He.glo_ok X G (c.fact 36 (f := .glo "_law_run") rfl), b__law_run := (FunD.bindsN F__law_run fun _ _ _ _ _ _ us hl => match us, hl with | [_, _], _ => rfl),
    a__law_whole := _, d__law_whole := d__law_whole, F__law_whole := F__law_whole, g__law_whole := He.glo_ok X G (c.fact 37 (f := .glo "_law_whole") rfl), b__law_whole := (FunD.bindsN F__law_whole fun _ _ _ _ _ _ us hl => match us, hl with | [_], _ => rfl),
    a__law_end := _, d__law_end := d__law_end, F__law_end := F__law_end, g__law_end := He.glo_ok X G (c.fact 38 (f := .glo "_law_end") rfl), b__law_end := (FunD.bindsN F__law_end fun _ _ _ _ _ _ us hl => match us, hl with | [_, _], _ => rfl),
    a__law_value := _, d__law_value := d__law_value, F__law_value := F__law_value, g__law_value := He.glo_ok X G (c.fact 39 (f := .glo "_law_value") rfl), b__law_value := (FunD.bindsN F__law_value fun _ _ _ _ _ _ us hl => match us, hl with | [_, _, _, _, _], _ => rfl),
    a__law_case := _, d__law_case := d__law_case, F__law_case := F__law_case, g__law_case := He.glo_ok X G (c.fact 40 (f := .glo "_law_case") rfl), b__law_case := (FunD.bindsN F__law_case fun _ _ _ _ _ _ us hl => match us, hl with | [_, _, _], _ => rfl),
    a__law_parting_person := _, d__law_parting_person := d__law_parting_person, F__law_parting_person := F__law_parting_person, g__law_parting_person := He.glo_ok X G (c.fact 41 (f := .glo "_law_parting_person") rfl), b__law_parting_person := (FunD.bindsN F__law_parting_person fun _ _ _ _ _ _ us hl => match us, hl with | [_, _, _], _ => rfl),
    a__law_heard_values := _, d__law_heard_values := d__law_heard_values, F__law_heard_values := F__law_heard_values, g__law_heard_values := He.glo_ok X G (c.fact 42 (f := .glo "_law_heard_values") rfl), b__law_heard_values := (FunD.bindsN F__law_heard_values fun _ _ _ _ _ _ us hl => match us, hl with | [_, _, _, _, _, _, _], _ => rfl),
    a__law_heard_house := _, d__law_heard_house := d__law_heard_house, F__law_heard_house := F__law_heard_house, g__law_heard_house := He.glo_ok X G (c.fact 43 (f := .glo "_law_heard_house") rfl), b__law_heard_house := (FunD.bindsN F__law_heard_house fun _ _ _ _ _ _ us hl => match us, hl with | [_, _, _, _], _ => rfl),
    a__law_drawn_box := _, d__law_drawn_box := d__law_drawn_box, F__law_drawn_box := F__law_drawn_box, g__law_drawn_box := He.glo_ok X G (c.fact 44 (f := .glo "_law_drawn_box") rfl), b__law_drawn_box := (FunD.bindsN F__law_drawn_box fun _ _ _ _ _ _ us hl => match us, hl with | [_, _], _ => rfl),
    a__law_wide_sizes := _, d__law_wide_sizes := d__law_wide_sizes, F__law_wide_sizes := F__law_wide_sizes, g__law_wide_sizes := He.glo_ok X G (c.fact 45 (f := .glo "_law_wide_sizes") rfl), b__law_wide_sizes := (FunD.bindsN F__law_wide_sizes fun _ _ _ _ _ _ us hl => match us, hl with | [_], _ => rfl),
    a__law_wide_house := _, d__law_wide_house := d__law_wide_house, F__law_wide_house := F__law_wide_house, g__law_wide_house := He.glo_ok X G (c.fact 46 (f := .glo "_law_wide_house") rfl), b__law_wide_house := (FunD.bindsN F__law_wide_house fun _ _ _ _ _ _ us hl => match us, hl with | [_, _], _ => rfl),
    a__law_first_of := _, d__law_first_of := d__law_first_of, F__law_first_of := F__law_first_of, g__law_first_of := He.glo_ok X G (c.fact 47 (f := .glo "_law_first_of") rfl), b__law_first_of := (FunD.bindsN F__law_first_of fun _ _ _ _ _ _ us hl => match us, hl with | [_, _, _, _, _, _], _ => rfl),
    a__law_case_right := _, d__law_case_right := d__law_case_right, F__law_case_right := F__law_case_right, g__law_case_right := He.glo_ok X G (c.fact 48 (f := .glo "_law_case_right") rfl), b__law_case_right := (FunD.bindsN F__law_case_right fun _ _ _ _ _ _ us hl => match us, hl with | [_, _, _, _, _, _], _ => rfl),
    a__law_box_right := _, d__law_box_right := d__law_box_right, F__law_box_right := F__law_box_right, g__law_box_right := He.glo_ok X G (c.fact 49 (f := .glo "_law_box_right") rfl), b__law_box_right := (FunD.bindsN F__law_box_right fun _ _ _ _ _ _ us hl => match us, hl with | [_, _, _, _], _ => rfl),
    a_law := _, d_law := d_law, F_law := F_law, g_law := He.glo_ok X G (c.fact 50 (f := .glo "law") rfl), b_law := (FunD.bindsN F_law fun _ _ _ _ _ _ us hl => match us, hl with | [_], _ => rfl),
    n_abs := He.free_ok X G (c.fact 51 (f := .free "abs") rfl),
    n_int := He.free_ok X G (c.fact 52 (f := .free "int") rfl),
    n_len := He.free_ok X G (c.fact 53 (f := .free "len") rfl),
    n_list := He.free_ok X G (c.fact 54 (f := .free "list") rfl),
    n_max := He.free_ok X G (c.fact 55 (f := .free "max") rfl),
    n_min := He.free_ok X G (c.fact 56 (f := .free "min") rfl),
    n_range := He.free_ok X G (c.fact 57 (f := .free "range") rfl),
    n_repr := He.free_ok X G (c.fact 58 (f := .free "repr") rfl),
    n_tuple := He.free_ok X G (c.fact 59 (f := .free "tuple") rfl) }
theorem end_ (pure_law : ∀ ns : List Int, ns.length ≤ 63 → ∃ fs, c_law_k27 [⟨.scr (ns.map D.int), 0⟩] = .ok (Cell.fz (.bl true), fs)) : PySem.Challenge.rw_plainhearing_k27_worst_and_best.Holds := by
  open PySem.W PySem.Calls in
  w_on; o_law
  refine HandSHeadRun.head_any (r := OpenLaw.row PySem.Challenge.rw_plainhearing_k27_worst_and_best) (q := view (OpenLaw.row PySem.Challenge.rw_plainhearing_k27_worst_and_best).prog [54]) (H := hk) (ob := ob) (M := 4300) (loose := ((["count_of", "kinds_of", "watches_of", "combined", "rows_of", "narrowed", "row_number", "end_of", "worths_of", "row_worths", "payment_of", "value_by", "value_of", "case_box", "rows_saying", "valued_rows"] : List PySem.Str) ++ (["first_least", "first_greatest", "worst_truth", "best_lie", "_law_begin", "_law_draw", "_law_pick", "_law_pop", "_law_shuffled", "_law_pool", "_law_number", "_law_sizes", "_law_rows", "_law_watching", "_law_house", "_law_parts"] : List PySem.Str) ++ (["_law_narrowed", "_law_hearing", "_law_nodes", "_law_leaves", "_law_run", "_law_whole", "_law_end", "_law_value", "_law_case", "_law_parting_person", "_law_heard_values", "_law_heard_house", "_law_drawn_box", "_law_wide_sizes", "_law_wide_house", "_law_first_of"] : List PySem.Str) ++ (["_law_case_right", "_law_box_right"] : List PySem.Str))) (d := HandSHeadRun.topDef (OpenLaw.row PySem.Challenge.rw_plainhearing_k27_worst_and_best).prog 54) (kwd := []) ob_eq
    (by kernel_rfl) (fun s => by kernel_rfl) run (by kernel_rfl) (by kernel_rfl) (by kernel_rfl) (by rfl) (by first | assumption | decide +kernel) (by decide +kernel) ⟨rfl, rfl, rfl, rfl, rfl, by decide +kernel⟩ ?hw ?hc
  case hw => w_witness2
  case hc =>
    refine Z.walk_ofG (l := PySem.Challenge.rw_plainhearing_k27_worst_and_best) (n := 63) (lv := 34) (x := "script") (C := L2.CX0) rfl (by decide) (by kernel_rfl) ⟨rfl, by decide, by decide⟩ ?F (fun _ _ _ _ z => z)
    intro w mg fa h Y G hmg0
    obtain ⟨K, KX, c⟩ := Y
    have hmg : mg ("law" : PySem.Str) = some (.ref fa) := by
      have e : (HandSHeadRun.topDef (OpenLaw.row PySem.Challenge.rw_plainhearing_k27_worst_and_best).prog 54).name = ("law" : PySem.Str) := by kernel_rfl
      rw [← e]
      exact hmg0
    obtain ⟨fd, hb, hF⟩ := facts (P := (PySem.Challenge.rw_plainhearing_k27_worst_and_best).prog) (w := w) KX G hmg c
    exact ⟨K, fd, spD K 1 c_law_k27, KX, hb, fun H a ns hl _ hS => (pure_law ns hl).elim fun fs h => law_sp hS h, hF⟩
end P_k27

/-! S: boxes and rows. -/
namespace S
open Z PySem PySem.Spec PyProof.Rows L2
@[simp] theorem eq_draw : c__law_draw = c_draw := rfl
@[simp] theorem eq_begin : c__law_begin = c_begin := rfl
@[simp] theorem eq_pick : c__law_pick = c_pick := rfl
@[simp] theorem eq_shuffled : c__law_shuffled = c_shuffled := rfl
@[simp] theorem eq_is_int : c__law_is_int = c_is_int := rfl
@[simp] theorem eq_is_ints : c__law_is_ints = c_is_ints := rfl
theorem prodL_le {α : Type} : ∀ {parts : List (List α)}, (∀ p ∈ parts, p.length ≤ 8) → (prodL parts).length ≤ 8 ^ parts.length
  | [], _ => by simp [prodL]
  | p :: ps, h => by
    rw [prodL_length, List.map_cons, List.foldr_cons, ← prodL_length, List.length_cons, Nat.pow_succ, Nat.mul_comm]
    exact Nat.mul_le_mul (prodL_le fun q hq => h q (List.mem_cons_of_mem _ hq)) (h p (List.mem_cons_self ..))
theorem prodL_row {α : Type} {parts : List (List α)} {row : List α} (h : row ∈ prodL parts) : row.length = parts.length := by
  replace h := prodL_mem.mp h
  induction h with
  | nil => rfl
  | cons _ _ ih => rw [List.length_cons, List.length_cons, ih]
theorem prodL_map {α β : Type} (f : α → β) : ∀ ps : List (List α), prodL (ps.map fun p => p.map f) = (prodL ps).map fun r => r.map f
  | [] => rfl
  | p :: ps => by
    rw [List.map_cons, prodL_cons, prodL_cons, prodL_map f ps]
    simp [List.map_flatMap, List.flatMap_map, Function.comp_def]
theorem prodL_takes {α : Type} {done rest parts : List (List α)} (e : parts = done ++ rest) (hl : parts.length ≤ 8) (h : ∀ p ∈ parts, p.length ≤ 8) : (prodL done).length ≤ 16777216 := by
  subst e
  have h1 := prodL_le (parts := done) fun p hp => h p (List.mem_append_left _ hp)
  rw [List.length_append] at hl
  exact Nat.le_trans h1 (Nat.le_trans (Nat.pow_le_pow_right (by decide) (show done.length ≤ 8 by omega)) (by decide))
/-- all rows -/
theorem combined_any {parts : List (List D)} {k : Nat} {c : D} (hc : c = .tup (parts.map .tup) ∧ k = 0 ∨ c = .lst (parts.map .tup) ∧ k = 1) (hl : parts.length ≤ 8) (h : ∀ p ∈ parts, p.length ≤ 8) : c_combined [⟨c, k⟩] = .ok (⟨.tup ((prodL parts).map .tup), 0⟩, [⟨c, k⟩]) := by
  have main : ∀ (ch : Option Nat) (L : List Nat), 2 ∉ L → 1 ∉ L → (∀ ρ, chkOk ⟨parts.map .tup, ch⟩ (some ⟨c, k⟩ :: ρ) = true) → ∃ x2, loopF ⟨parts.map .tup, ch⟩ (gN 2) b_combined_2 L (parts.map .tup) [some ⟨c, k⟩, some ⟨.lst [.tup []], 1⟩, none, none, none] = .ok (.next, [some ⟨c, k⟩, some ⟨.lst ((prodL parts).map .tup), 1⟩, x2, none, none]) := by
    intro ch L hL2 hL1 hck
    obtain ⟨s', e, rest, h2⟩ := for_rel (it := ⟨parts.map .tup, ch⟩) (g := gN 2) (body := b_combined_2) (L := L) (ds := parts) (s := ([[]], none)) D.tup (fun s : List (List D) × Option Cell => [some ⟨c, k⟩, some ⟨.lst (s.1.map .tup), 1⟩, s.2, none, none])
      (fun rest s => ∃ done, parts = done ++ rest ∧ s.1 = prodL done) ⟨[], rfl, rfl⟩ (fun p rest s ⟨done, h1, h2⟩ => by
        refine ⟨(prodL (done ++ [p]), some ⟨.tup p, 0⟩), ?_, done ++ [p], by simp [h1], rfl⟩
        have hb := prodL_takes (done := done ++ [p]) (rest := rest) (by simp [h1]) hl h
        have e := comp2_m (it := ⟨s.1.map .tup, some 1⟩) (g := gN 3) (g1 := gN 4) (tt := mYes) (tt1 := mYes) (mi1 := mItems (aVar 2)) (me := e_combined_1) (vs := [3, 4]) (vs1 := [4]) (ρ := [some ⟨c, k⟩, some ⟨.lst (s.1.map .tup), 1⟩, some ⟨.tup p, 0⟩, none, none])
          D.tup (fun _ => p) id (fun row x => .tup (row ++ [x])) (fun row => [some ⟨c, k⟩, some ⟨.lst (s.1.map .tup), 1⟩, some ⟨.tup p, 0⟩, some ⟨.tup row, 0⟩, none]) (by simp) (ds := s.1) (fun row hr => by
            have hrl : row.length ≤ 8 := by
              rw [h2] at hr
              have := prodL_row hr
              rw [h1, List.length_append] at hl
              omega
            refine ⟨none, by simp, by simp, by simp, by simp, fun x hx => ?_, by simp⟩
            simp [comp1, e_combined_1, f_addT (l := row) (m := [x]) (show row.length ≤ 10000 by omega) (by simp)])
        have e3 : (s.1.flatMap fun row => p.map fun x => D.tup (row ++ [x])) = (prodL (done ++ [p])).map .tup := by
          rw [prodL_snoc, h2]
          simp [List.map_flatMap, Function.comp_def]
        rw [e3] at e
        simp [step1, b_combined_2, e, hb, hL2, hL1, hck])
    obtain ⟨h1, h2⟩ := h2
    rw [List.append_nil] at h1
    subst h1
    have e2 : ([[]] : List (List D)).map D.tup = [.tup []] := rfl
    simp only [h2, e2] at e
    exact ⟨_, e⟩
  rcases hc with ⟨rfl, rfl⟩ | ⟨rfl, rfl⟩
  · obtain ⟨x2, e⟩ := main none [] (by simp) (by simp) fun _ => rfl
    simp [c_combined, m_combined, e]
  · obtain ⟨x2, e⟩ := main (some 0) [0, 0] (by simp) (by simp) fun _ => by simp
    simp [c_combined, m_combined, e]
theorem combined_ok {parts : List (List D)} (hl : parts.length ≤ 8) (h : ∀ p ∈ parts, p.length ≤ 8) : c_combined [⟨.tup (parts.map .tup), 0⟩] = .ok (⟨.tup ((prodL parts).map .tup), 0⟩, [⟨.tup (parts.map .tup), 0⟩]) := combined_any (.inl ⟨rfl, rfl⟩) hl h
theorem combinedL_ok {parts : List (List D)} (hl : parts.length ≤ 8) (h : ∀ p ∈ parts, p.length ≤ 8) : c_combined [⟨.lst (parts.map .tup), 1⟩] = .ok (⟨.tup ((prodL parts).map .tup), 0⟩, [⟨.lst (parts.map .tup), 1⟩]) := combined_any (.inr ⟨rfl, rfl⟩) hl h
theorem rows_of_ok {parts : List (List D)} (hl : parts.length ≤ 8) (h : ∀ p ∈ parts, p.length ≤ 8) : c_rows_of [⟨.tup (parts.map .tup), 0⟩] = .ok (⟨.tup ((prodL parts).map .tup), 0⟩, [⟨.tup (parts.map .tup), 0⟩]) := by
  simp [c_rows_of, m_rows_of, combined_ok hl h]
theorem narrowed_ok {bs l : List D} {p : Nat} (hp : p < bs.length) (hl : bs.length ≤ 1000) : c_narrowed [⟨.tup bs, 0⟩, ⟨.int (p : Int), 0⟩, ⟨.tup l, 0⟩] = .ok (⟨.tup (bs.set p (.tup l)), 0⟩, [⟨.tup bs, 0⟩, ⟨.int (p : Int), 0⟩, ⟨.tup l, 0⟩]) := by
  have e1 := cutD_to (l := bs) (k := p) (by omega)
  have e2 := cutD_from (l := bs) (k := p + 1) (by omega)
  rw [show ((p + 1 : Nat) : Int) = (p : Int) + 1 by omega] at e2
  have e3 : bs.set p (.tup l) = bs.take p ++ .tup l :: bs.drop (p + 1) := by rw [List.set_eq_take_append_cons_drop, if_pos hp]
  simp [c_narrowed, m_narrowed, e1, e2, f_addT, e3, show p ≤ 10000 by omega, show bs.length - (p + 1) ≤ 10000 by omega, show bs.length ≤ 10000 by omega, Nat.min_eq_left (show p ≤ bs.length by omega), show p + 1 ≤ 10000 by omega]
/-! the law's own rows -/
theorem law_rowsG_ok (toP : List D → D) (hP : ∀ p, itemsOf (toP p) = some p) {parts : List (List D)} {k : Nat} {c : D} (hc : (c = .tup (parts.map toP) ∨ c = .lst (parts.map toP)) ∧ k = 0 ∨ c = .lst (parts.map toP) ∧ k = 1) (hl : parts.length ≤ 8) (h : ∀ p ∈ parts, p.length ≤ 8) : c__law_rows [⟨c, k⟩] = .ok (⟨.lst ((prodL parts).map .tup), 1⟩, [⟨c, k⟩]) := by
  have inner : ∀ (ch : Option Nat) (L : List Nat) (p : List D) (rows : List (List D)) (out : List D) (x4 : Option Cell), (∀ r ∈ rows, r.length ≤ 8) → p.length ≤ 8 → out.length + rows.length * p.length ≤ 16777216 → 4 ∉ L →
      ∃ x4', loopF ⟨rows.map .tup, some 1⟩ (gN 4) b__law_rows_2 L (rows.map .tup) [some ⟨c, k⟩, some ⟨.lst (rows.map .tup), 1⟩, some ⟨toP p, 0⟩, some ⟨.lst out, 1⟩, x4, none] =
        .ok (.next, [some ⟨c, k⟩, some ⟨.lst (rows.map .tup), 1⟩, some ⟨toP p, 0⟩, some ⟨.lst (out ++ rows.flatMap fun r => p.map fun x => .tup (r ++ [x])), 1⟩, x4', none]) := by
    intro ch L p rows out x4 hr hp hb hL
    obtain ⟨s', e, hI⟩ := for_rel (it := ⟨rows.map .tup, some 1⟩) (g := gN 4) (body := b__law_rows_2) (L := L) (ds := rows) (s := (out, x4)) D.tup (fun s : List D × Option Cell => [some ⟨c, k⟩, some ⟨.lst (rows.map .tup), 1⟩, some ⟨toP p, 0⟩, some ⟨.lst s.1, 1⟩, s.2, none])
      (fun rest s => ∃ done, rows = done ++ rest ∧ s.1 = out ++ done.flatMap fun r => p.map fun x => .tup (r ++ [x])) ⟨[], rfl, by simp⟩ (fun r rest s ⟨done, h1, h2⟩ => by
        refine ⟨(s.1 ++ p.map fun x => .tup (r ++ [x]), some ⟨.tup r, 0⟩), ?_, done ++ [r], by simp [h1], by simp [h2]⟩
        have hr8 := hr r (by rw [h1]; simp)
        have e := comp_m (it := ⟨p, none⟩) (g := gN 5) (tt := mYes) (me := e__law_rows_1) (vs := [5]) (ρ := [some ⟨c, k⟩, some ⟨.lst (rows.map .tup), 1⟩, some ⟨toP p, 0⟩, some ⟨.lst s.1, 1⟩, some ⟨.tup r, 0⟩, none]) id (fun x => .tup (r ++ [x])) (ds := p) (fun x hx => by
          simp [comp1, e__law_rows_1, f_addT (l := r) (m := [x]) (show r.length ≤ 10000 by omega) (by simp)])
        rw [List.map_id] at e
        have hs : s.1.length + p.length ≤ 16777216 := by
          have e5 : (done.flatMap fun r => p.map fun x => D.tup (r ++ [x])).length = done.length * p.length := by
            generalize done = dn
            induction dn with
            | nil => simp
            | cons a q ih => rw [List.flatMap_cons, List.length_append, ih, List.length_map, List.length_cons, Nat.succ_mul]; omega
          have e6 : done.length * p.length + p.length ≤ rows.length * p.length := by
            rw [← Nat.succ_mul]
            exact Nat.mul_le_mul_right _ (by rw [h1]; simp)
          rw [h2, List.length_append, e5]
          omega
        have ex : fExtend s.1 [.lst (p.map fun x => .tup (r ++ [x]))] = .ok (.non, s.1 ++ p.map fun x => .tup (r ++ [x])) := by
          unfold fExtend
          simp only [List.length_map]
          rw [if_pos hs]
        have hpl : p.length ≤ 16777216 := by omega
        simp [step1, b__law_rows_2, hP, hL, hpl, e, ex])
    obtain ⟨done, h1, h2⟩ := hI
    rw [List.append_nil] at h1
    subst h1
    exact ⟨s'.2, by rw [e, h2]⟩
  have main : ∀ (ch : Option Nat) (L : List Nat), 2 ∉ L → 3 ∉ L → 1 ∉ L → 4 ∉ L → (∀ ρ, chkOk ⟨parts.map toP, ch⟩ (some ⟨c, k⟩ :: ρ) = true) →
      ∃ x2 x3 x4, loopF ⟨parts.map toP, ch⟩ (gN 2) b__law_rows_3 L (parts.map toP) [some ⟨c, k⟩, some ⟨.lst [.tup []], 1⟩, none, none, none, none] = .ok (.next, [some ⟨c, k⟩, some ⟨.lst ((prodL parts).map .tup), 1⟩, x2, x3, x4, none]) := by
    intro ch L hL2 hL3 hL1 hL4 hck
    obtain ⟨s', e, hI⟩ := for_rel (it := ⟨parts.map toP, ch⟩) (g := gN 2) (body := b__law_rows_3) (L := L) (ds := parts) (s := ([[]], none, none, none)) toP (fun s : List (List D) × Option Cell × Option Cell × Option Cell => [some ⟨c, k⟩, some ⟨.lst (s.1.map .tup), 1⟩, s.2.1, s.2.2.1, s.2.2.2, none])
      (fun rest s => ∃ done, parts = done ++ rest ∧ s.1 = prodL done) ⟨[], rfl, rfl⟩ (fun p rest s ⟨done, h1, h2⟩ => by
        have hp8 := h p (by rw [h1]; simp)
        have hb := prodL_takes (done := done ++ [p]) (rest := rest) (by simp [h1]) hl h
        have hbl : (prodL (done ++ [p])).length = s.1.length * p.length := by
          rw [prodL_snoc, h2]
          generalize prodL done = q
          induction q with
          | nil => simp
          | cons a q ih => rw [List.flatMap_cons, List.length_append, ih, List.length_map, List.length_cons, Nat.succ_mul]; omega
        obtain ⟨x4', e1⟩ := inner none (1 :: L) p s.1 [] s.2.2.2 (fun r hr => by
          rw [h2] at hr
          have := prodL_row hr
          rw [h1, List.length_append] at hl
          omega) hp8 (by simp; omega) (by simpa using hL4)
        have e3 : (s.1.flatMap fun row => p.map fun x => D.tup (row ++ [x])) = (prodL (done ++ [p])).map .tup := by
          rw [prodL_snoc, h2]
          simp [List.map_flatMap, Function.comp_def]
        rw [List.nil_append, e3] at e1
        refine ⟨(prodL (done ++ [p]), some ⟨toP p, 0⟩, none, x4'), ?_, done ++ [p], by simp [h1], rfl⟩
        simp [step1, b__law_rows_3, hL2, hL3, hL1, e1, hck])
    obtain ⟨done, h1, h2⟩ := hI
    rw [List.append_nil] at h1
    subst h1
    exact ⟨s'.2.1, s'.2.2.1, s'.2.2.2, by rw [← h2]; exact e⟩
  rcases hc with ⟨hc, rfl⟩ | ⟨rfl, rfl⟩
  · obtain ⟨x2, x3, x4, e⟩ := main none [] (by simp) (by simp) (by simp) (by simp) fun _ => rfl
    rcases hc with rfl | rfl
    · simp [c__law_rows, m__law_rows, e]
    · simp [c__law_rows, m__law_rows, e]
  · obtain ⟨x2, x3, x4, e⟩ := main (some 0) [0, 0] (by simp) (by simp) (by simp) (by simp) fun _ => by simp
    simp [c__law_rows, m__law_rows, e]
theorem law_rows_ok {parts : List (List D)} {k : Nat} {c : D} (hc : (c = .tup (parts.map .tup) ∨ c = .lst (parts.map .tup)) ∧ k = 0 ∨ c = .lst (parts.map .tup) ∧ k = 1) (hl : parts.length ≤ 8) (h : ∀ p ∈ parts, p.length ≤ 8) : c__law_rows [⟨c, k⟩] = .ok (⟨.lst ((prodL parts).map .tup), 1⟩, [⟨c, k⟩]) := law_rowsG_ok .tup (fun _ => rfl) hc hl h
end S

/-! S: houses, values, cases. -/
namespace S
open Z PySem PySem.Spec PyProof.Rows L2
structure Kind where
  name : Str
  worths : List (List Int)
  deriving Inhabited
structure Prsn where
  name : Str
  kinds : List Kind
  watches : List Nat
  deriving Inhabited
structure End where
  out : Nat
  pays : List Int
  deriving Inhabited, DecidableEq
structure House where
  told : List Str
  persons : List Prsn
  ends : List End
  slack : Int
  deriving Inhabited
abbrev Box := List (List Nat)
abbrev Row := List Nat
def End.d (e : End) : D := .tup [.int e.out, iD e.pays]
def Kind.d (k : Kind) : D := .tup [.str k.name, .tup (k.worths.map iD)]
def Prsn.d (p : Prsn) : D := .tup [.str p.name, .tup (p.kinds.map Kind.d), nD p.watches]
def House.d (h : House) : D := .tup [.str "house", .tup (h.told.map D.str), .tup (h.persons.map Prsn.d), .tup (h.ends.map End.d), .int h.slack]
def Box.d (b : Box) : D := .tup (b.map nD)
def House.kinds (h : House) (p : Nat) : List Kind := (h.persons.getD p default).kinds
def House.watch (h : House) (p : Nat) : List Nat := (h.persons.getD p default).watches
def House.worths (h : House) (p k : Nat) : List (List Int) := ((h.kinds p).getD k default).worths
def House.row (h : House) (p k j : Nat) : List Int := (h.worths p k).getD j []
theorem getD_some {α : Type} {l : List α} {i : Nat} {a : α} (h : i < l.length) : l[i]? = some (l.getD i a) := by
  simp -implicitDefEqProofs [List.getElem?_eq_getElem h]
theorem map_some {α β : Type} {f : α → β} {l : List α} {i : Nat} {a : α} (h : i < l.length) : (l.map f)[i]? = some (f (l.getD i a)) := by
  simp -implicitDefEqProofs [List.getElem?_eq_getElem h]
section
variable {h : House} {p k j : Nat} {e : End}
theorem House.at2 {k k' : Nat} : fIx [⟨h.d, k⟩, ⟨.int 2, k'⟩] = .ok ⟨.tup (h.persons.map Prsn.d), 0⟩ := ixT (i := 2) rfl
theorem House.at1 {k k' : Nat} : fIx [⟨h.d, k⟩, ⟨.int 1, k'⟩] = .ok ⟨.tup (h.told.map D.str), 0⟩ := ixT (i := 1) rfl
theorem House.at3 {k k' : Nat} : fIx [⟨h.d, k⟩, ⟨.int 3, k'⟩] = .ok ⟨.tup (h.ends.map End.d), 0⟩ := ixT (i := 3) rfl
theorem House.at4 {k k' : Nat} : fIx [⟨h.d, k⟩, ⟨.int 4, k'⟩] = .ok ⟨.int h.slack, 0⟩ := ixT (i := 4) rfl
theorem House.atP {k k' : Nat} (hp : p < h.persons.length) : fIx [⟨.tup (h.persons.map Prsn.d), k⟩, ⟨.int (p : Int), k'⟩] = .ok ⟨(h.persons.getD p default).d, 0⟩ := ixT (map_some hp)
theorem Prsn.at1 {q : Prsn} {k k' : Nat} : fIx [⟨q.d, k⟩, ⟨.int 1, k'⟩] = .ok ⟨.tup (q.kinds.map Kind.d), 0⟩ := ixT (i := 1) rfl
theorem Prsn.at2 {q : Prsn} {k k' : Nat} : fIx [⟨q.d, k⟩, ⟨.int 2, k'⟩] = .ok ⟨nD q.watches, 0⟩ := ixT (i := 2) rfl
theorem Kind.at1 {q : Kind} {k k' : Nat} : fIx [⟨q.d, k⟩, ⟨.int 1, k'⟩] = .ok ⟨.tup (q.worths.map iD), 0⟩ := ixT (i := 1) rfl
theorem End.at0 {k k' : Nat} : fIx [⟨e.d, k⟩, ⟨.int 0, k'⟩] = .ok ⟨.int e.out, 0⟩ := ixT (i := 0) rfl
theorem End.at1 {k k' : Nat} : fIx [⟨e.d, k⟩, ⟨.int 1, k'⟩] = .ok ⟨iD e.pays, 0⟩ := ixT (i := 1) rfl
theorem kinds_of_ok (hp : p < h.persons.length) : c_kinds_of [⟨h.d, 0⟩, ⟨.int (p : Int), 0⟩] = .ok (⟨.tup ((h.kinds p).map Kind.d), 0⟩, [⟨h.d, 0⟩, ⟨.int (p : Int), 0⟩]) := by
  simp -implicitDefEqProofs [c_kinds_of, m_kinds_of, House.at2, House.atP hp, Prsn.at1]
  rfl
theorem watches_of_ok (hp : p < h.persons.length) : c_watches_of [⟨h.d, 0⟩, ⟨.int (p : Int), 0⟩] = .ok (⟨nD (h.watch p), 0⟩, [⟨h.d, 0⟩, ⟨.int (p : Int), 0⟩]) := by
  simp -implicitDefEqProofs [c_watches_of, m_watches_of, House.at2, House.atP hp, Prsn.at2]
  rfl
theorem worths_of_ok (hp : p < h.persons.length) (hk : k < (h.kinds p).length) : c_worths_of [⟨h.d, 0⟩, ⟨.int (p : Int), 0⟩, ⟨.int (k : Int), 0⟩] = .ok (⟨.tup ((h.worths p k).map iD), 0⟩, [⟨h.d, 0⟩, ⟨.int (p : Int), 0⟩, ⟨.int (k : Int), 0⟩]) := by
  have e : fIx [⟨.tup ((h.kinds p).map Kind.d), 0⟩, ⟨.int (k : Int), 0⟩] = .ok ⟨((h.kinds p).getD k default).d, 0⟩ := ixT (map_some hk)
  simp -implicitDefEqProofs [c_worths_of, m_worths_of, kinds_of_ok hp, e, Kind.at1]
  rfl
theorem row_worths_ok (hp : p < h.persons.length) (hk : k < (h.kinds p).length) (hj : j < (h.worths p k).length) : c_row_worths [⟨h.d, 0⟩, ⟨.int (p : Int), 0⟩, ⟨.int (k : Int), 0⟩, ⟨.int (j : Int), 0⟩] = .ok (⟨iD (h.row p k j), 0⟩, [⟨h.d, 0⟩, ⟨.int (p : Int), 0⟩, ⟨.int (k : Int), 0⟩, ⟨.int (j : Int), 0⟩]) := by
  have e : fIx [⟨.tup ((h.worths p k).map iD), 0⟩, ⟨.int (j : Int), 0⟩] = .ok ⟨iD (h.row p k j), 0⟩ := ixT (map_some hj)
  simp -implicitDefEqProofs [c_row_worths, m_row_worths, worths_of_ok hp hk, e]
theorem payment_of_ok (hp : p < e.pays.length) : c_payment_of [⟨.int (p : Int), 0⟩, ⟨e.d, 0⟩] = .ok (⟨.int (e.pays.getD p 0), 0⟩, [⟨.int (p : Int), 0⟩, ⟨e.d, 0⟩]) := by
  simp -implicitDefEqProofs [c_payment_of, m_payment_of, End.at1, ix_iD hp]
/-- the value of an end by numbers -/
def val (ns : List Int) (p : Nat) (e : End) : Int := ns.getD e.out 0 - e.pays.getD p 0
theorem value_by_ok {ns : List Int} (ho : e.out < ns.length) (hp : p < e.pays.length) : c_value_by [⟨iD ns, 0⟩, ⟨.int (p : Int), 0⟩, ⟨e.d, 0⟩] = .ok (⟨.int (val ns p e), 0⟩, [⟨iD ns, 0⟩, ⟨.int (p : Int), 0⟩, ⟨e.d, 0⟩]) := by
  simp -implicitDefEqProofs [c_value_by, m_value_by, End.at0, ix_iD ho, payment_of_ok hp, val]
theorem value_of_ok (hp : p < h.persons.length) (hk : k < (h.kinds p).length) (hj : j < (h.worths p k).length) (ho : e.out < (h.row p k j).length) (hpp : p < e.pays.length) :
    c_value_of [⟨h.d, 0⟩, ⟨.int (p : Int), 0⟩, ⟨.int (k : Int), 0⟩, ⟨.int (j : Int), 0⟩, ⟨e.d, 0⟩] = .ok (⟨.int (val (h.row p k j) p e), 0⟩, [⟨h.d, 0⟩, ⟨.int (p : Int), 0⟩, ⟨.int (k : Int), 0⟩, ⟨.int (j : Int), 0⟩, ⟨e.d, 0⟩]) := by
  simp -implicitDefEqProofs [c_value_of, m_value_of, row_worths_ok hp hk hj, value_by_ok ho hpp]
theorem values_of_ok (hp : p < h.persons.length) (hk : k < (h.kinds p).length) (ho : ∀ ns ∈ h.worths p k, e.out < ns.length) (hpp : p < e.pays.length) (hl : (h.worths p k).length ≤ 1000) :
    c_values_of [⟨h.d, 0⟩, ⟨.int (p : Int), 0⟩, ⟨.int (k : Int), 0⟩, ⟨e.d, 0⟩] = .ok (⟨iD ((h.worths p k).map fun ns => val ns p e), 0⟩, [⟨h.d, 0⟩, ⟨.int (p : Int), 0⟩, ⟨.int (k : Int), 0⟩, ⟨e.d, 0⟩]) := by
  have e1 := comp_m (it := ⟨(h.worths p k).map iD, none⟩) (g := gN 4) (tt := mYes) (me := e_values_of_1) (vs := [4]) (ρ := [some ⟨h.d, 0⟩, some ⟨.int (p : Int), 0⟩, some ⟨.int (k : Int), 0⟩, some ⟨e.d, 0⟩, none]) iD (fun ns => .int (val ns p e)) (ds := h.worths p k) (fun ns hn => by
    simp -implicitDefEqProofs [comp1, e_values_of_1, value_by_ok (ho ns hn) hpp])
  have e2 : (h.worths p k).map (fun ns => D.int (val ns p e)) = iL ((h.worths p k).map fun ns => val ns p e) := by simp -implicitDefEqProofs [iL]
  rw [e2] at e1
  simp -implicitDefEqProofs [c_values_of, m_values_of, worths_of_ok hp hk, e1, show (h.worths p k).length ≤ 16777216 by omega]
  rfl
def dot (ws ns : List Int) : Int := (List.range ns.length).foldl (fun t i => t + ws.getD i 0 * ns.getD i 0) 0
theorem weighted_sum_ok {ws ns : List Int} (hl : ws.length = ns.length) (hn : ns.length ≤ 1000) (hw : ∀ w ∈ ws, -(2 ^ 64) < w ∧ w < 2 ^ 64) : c_weighted_sum [⟨iD ws, 0⟩, ⟨iD ns, 0⟩] = .ok (⟨.int (dot ws ns), 0⟩, [⟨iD ws, 0⟩, ⟨iD ns, 0⟩]) := by
  obtain ⟨e, _⟩ := for_fold (it := ⟨(List.range ns.length).map (fun (i : Nat) => D.int (i : Int)), none⟩) (g := gN 3) (body := b_weighted_sum_1) (L := []) (ds := List.range ns.length) (s := ((0 : Int), (none : Option Cell))) (fun (i : Nat) => D.int (i : Int)) (fun s => [some ⟨iD ws, 0⟩, some ⟨iD ns, 0⟩, some ⟨.int s.1, 0⟩, s.2])
    (fun s i => (s.1 + ws.getD i 0 * ns.getD i 0, some ⟨.int (i : Int), 0⟩)) (fun r _ => ∀ i ∈ r, i < ns.length) (by simp) (fun a r s hr => by
      have ha := hr a (List.mem_cons_self ..)
      have hm : ws.getD a 0 ∈ ws := by
        have : a < ws.length := by omega
        simp -implicitDefEqProofs [List.getElem?_eq_getElem this]
      refine ⟨?_, fun i hi => hr i (List.mem_cons_of_mem _ hi)⟩
      simp -implicitDefEqProofs [-List.getD_eq_getElem?_getD, step1, b_weighted_sum_1, ix_iD ha, ix_iD (show a < ws.length by omega), p_mulL (hw _ hm)])
  have e2 : ∀ (l : List Nat) (s : Int × Option Cell), (l.foldl (fun (s : Int × Option Cell) (i : Nat) => (s.1 + ws.getD i 0 * ns.getD i 0, some (⟨.int (i : Int), 0⟩ : Cell))) s).1 = l.foldl (fun t i => t + ws.getD i 0 * ns.getD i 0) s.1 := by
    intro l
    induction l with
    | nil => intro s; rfl
    | cons a r ih => intro s; rw [List.foldl_cons, List.foldl_cons, ih]
  rw [e2] at e
  dsimp only at e
  simp -implicitDefEqProofs [-List.getD_eq_getElem?_getD, c_weighted_sum, m_weighted_sum, rgB_nat (show ns.length ≤ 16777216 by omega), rgD_nat', e, dot]
theorem mixed_value_ok {ws : List Int} (hp : p < h.persons.length) (hk : k < (h.kinds p).length) (ho : ∀ ns ∈ h.worths p k, e.out < ns.length) (hpp : p < e.pays.length) (hl : (h.worths p k).length ≤ 1000) (hw : ws.length = (h.worths p k).length) (hb : ∀ w ∈ ws, -(2 ^ 64) < w ∧ w < 2 ^ 64) :
    c_mixed_value [⟨h.d, 0⟩, ⟨.int (p : Int), 0⟩, ⟨.int (k : Int), 0⟩, ⟨iD ws, 0⟩, ⟨e.d, 0⟩] = .ok (⟨.int (dot ws ((h.worths p k).map fun ns => val ns p e)), 0⟩, [⟨h.d, 0⟩, ⟨.int (p : Int), 0⟩, ⟨.int (k : Int), 0⟩, ⟨iD ws, 0⟩, ⟨e.d, 0⟩]) := by
  have e1 := weighted_sum_ok (ws := ws) (ns := (h.worths p k).map fun ns => val ns p e) (by simp -implicitDefEqProofs [hw]) (by simp; omega) hb
  simp -implicitDefEqProofs [c_mixed_value, m_mixed_value, values_of_ok hp hk ho hpp hl, e1]
end
/-! ### cases -/
theorem rows_nL (b : Box) : prodL (b.map nL) = (prodL b).map nL := prodL_map (fun (i : Nat) => D.int (i : Int)) b
theorem box_parts (b : Box) : (b.map nL).map D.tup = b.map nD := by rw [List.map_map]; rfl
/-- a box that may be walked -/
structure BoxOk (b : Box) : Prop where
  len : b.length ≤ 8
  part : ∀ q ∈ b, q.length ≤ 8
theorem BoxOk.nL {b : Box} (h : BoxOk b) : (b.map nL).length ≤ 8 ∧ ∀ q ∈ b.map Z.nL, q.length ≤ 8 := ⟨by simpa using h.len, fun q hq => by
  obtain ⟨z, hz, rfl⟩ := List.mem_map.mp hq
  simpa using h.part z hz⟩
theorem rows_of_box {b : Box} (h : BoxOk b) : c_rows_of [⟨Box.d b, 0⟩] = .ok (⟨.tup ((prodL b).map nD), 0⟩, [⟨Box.d b, 0⟩]) := by
  have e := rows_of_ok (parts := b.map nL) h.nL.1 h.nL.2
  rw [box_parts, rows_nL, box_parts] at e
  exact e
theorem law_rows_box {b : Box} {k : Nat} {c : D} (hc : (c = Box.d b ∨ c = .lst (b.map nD)) ∧ k = 0 ∨ c = .lst (b.map nD) ∧ k = 1) (h : BoxOk b) : c__law_rows [⟨c, k⟩] = .ok (⟨.lst ((prodL b).map nD), 1⟩, [⟨c, k⟩]) := by
  have e := law_rows_ok (parts := b.map nL) (k := k) (c := c) (by rw [box_parts]; exact hc) h.nL.1 h.nL.2
  rw [rows_nL, box_parts] at e
  exact e
def caseBox (b : Box) (w : List Nat) : Box := w.map fun o => b.getD o []
section
variable {h : House} {b : Box} {p : Nat}
theorem cases_of_ok (hp : p < h.persons.length) (hw : ∀ o ∈ h.watch p, o < b.length) (hl : (h.watch p).length ≤ 8) (hb : BoxOk b) :
    c_cases_of [⟨h.d, 0⟩, ⟨Box.d b, 0⟩, ⟨.int (p : Int), 0⟩] = .ok (⟨.tup ((prodL (caseBox b (h.watch p))).map nD), 0⟩, [⟨h.d, 0⟩, ⟨Box.d b, 0⟩, ⟨.int (p : Int), 0⟩]) := by
  have e1 := comp_m (it := ⟨nL (h.watch p), none⟩) (g := gN 3) (tt := mYes) (me := e_cases_of_1) (vs := [3]) (ρ := [some ⟨h.d, 0⟩, some ⟨Box.d b, 0⟩, some ⟨.int (p : Int), 0⟩, none]) (fun (i : Nat) => D.int (i : Int)) (fun o => nD (b.getD o [])) (ds := h.watch p) (fun o ho => by
    have ex : fIx [⟨Box.d b, 0⟩, ⟨.int (o : Int), 0⟩] = .ok ⟨nD (b.getD o []), 0⟩ := ixT (map_some (hw o ho))
    simp -implicitDefEqProofs [-List.getD_eq_getElem?_getD, comp1, e_cases_of_1, ex])
  have hq : ∀ q ∈ (caseBox b (h.watch p)).map nL, q.length ≤ 8 := fun q hq => by
    obtain ⟨z, hz, rfl⟩ := List.mem_map.mp hq
    obtain ⟨o, ho, rfl⟩ := List.mem_map.mp hz
    have := hb.part (b.getD o []) (by simp [List.getElem?_eq_getElem (hw o ho)])
    simpa using this
  have e2 := combinedL_ok (parts := (caseBox b (h.watch p)).map nL) (by simpa [caseBox] using hl) hq
  rw [rows_nL, box_parts, box_parts] at e2
  have e3 : (h.watch p).map (fun o => nD (b.getD o [])) = (caseBox b (h.watch p)).map nD := by simp [caseBox]
  rw [e3] at e1
  have e4 : (h.watch p).map (fun (i : Nat) => D.int (i : Int)) = nL (h.watch p) := rfl
  rw [e4] at e1
  simp -implicitDefEqProofs [-List.getD_eq_getElem?_getD, c_cases_of, m_cases_of, watches_of_ok hp, e1, show (h.watch p).length ≤ 16777216 by omega, e2]
/-- the box in which the watched ones say the case's words -/
def narrowTo (b : Box) : List Nat → Row → Box
  | o :: w, c :: r => narrowTo (b.set o [c]) w r
  | _, _ => b
theorem narrowTo_len : ∀ {w : List Nat} {c : Row} {b : Box}, (narrowTo b w c).length = b.length
  | [], _, _ => by simp [narrowTo]
  | _ :: _, [], _ => by simp [narrowTo]
  | o :: w, c :: r, b => by rw [narrowTo, narrowTo_len]; simp
theorem narrowTo_snoc : ∀ {w : List Nat} {c : Row} {b : Box} {o x : Nat}, w.length = c.length → narrowTo b (w ++ [o]) (c ++ [x]) = (narrowTo b w c).set o [x]
  | [], [], b, o, x, _ => rfl
  | [], _ :: _, _, _, _, h => by simp at h
  | _ :: _, [], _, _, _, h => by simp at h
  | q :: w, c :: r, b, o, x, h => by
    rw [List.cons_append, List.cons_append, narrowTo, narrowTo, narrowTo_snoc (by simpa using h)]
theorem case_box_ok {c : Row} (hp : p < h.persons.length) (hw : ∀ o ∈ h.watch p, o < b.length) (hc : c.length = (h.watch p).length) (hl : b.length ≤ 8) (hn : c.length ≤ 100) :
    c_case_box [⟨h.d, 0⟩, ⟨Box.d b, 0⟩, ⟨.int (p : Int), 0⟩, ⟨nD c, 0⟩] = .ok (⟨Box.d (narrowTo b (h.watch p) c), 0⟩, [⟨h.d, 0⟩, ⟨Box.d b, 0⟩, ⟨.int (p : Int), 0⟩, ⟨nD c, 0⟩]) := by
  obtain ⟨s', e, n, hn1, hn2, hn3⟩ := for_rel (it := ⟨(List.range (h.watch p).length).map (fun (i : Nat) => D.int (i : Int)), none⟩) (g := gN 6) (body := b_case_box_1) (L := []) (ds := List.range (h.watch p).length) (s := (b, none)) (fun (i : Nat) => D.int (i : Int))
    (fun s : Box × Option Cell => [some ⟨h.d, 0⟩, some ⟨Box.d b, 0⟩, some ⟨.int (p : Int), 0⟩, some ⟨nD c, 0⟩, some ⟨nD (h.watch p), 0⟩, some ⟨Box.d s.1, 0⟩, s.2])
    (fun r s => ∃ n, n + r.length = (h.watch p).length ∧ (∀ (i : Nat) (y : Nat), r[i]? = some y → y = n + i) ∧ s.1 = narrowTo b ((h.watch p).take n) (c.take n)) ⟨0, by simp, fun i y hy => by
      obtain ⟨h1, h2⟩ := List.getElem?_eq_some_iff.mp hy
      rw [List.getElem_range] at h2
      omega, by simp [narrowTo]⟩ (fun a r s ⟨n, h1, h2, h3⟩ => by
      have ha := h2 0 a rfl
      rw [Nat.add_zero] at ha
      subst ha
      rw [List.length_cons] at h1
      have hlt : a < (h.watch p).length := by omega
      have hlc : a < c.length := by omega
      have hm : (h.watch p).getD a 0 ∈ h.watch p := by simp [List.getElem?_eq_getElem hlt]
      refine ⟨((s.1).set ((h.watch p).getD a 0) [c.getD a 0], some ⟨.int (a : Int), 0⟩), ?_, a + 1, by omega, fun i y hy => ?_, ?_⟩
      · have ex1 : fIx [⟨nD (h.watch p), 0⟩, ⟨.int (a : Int), 0⟩] = .ok ⟨.int ((h.watch p).getD a 0 : Nat), 0⟩ := ixT (map_some hlt)
        have ex2 : fIx [⟨nD c, 0⟩, ⟨.int (a : Int), 0⟩] = .ok ⟨.int (c.getD a 0 : Nat), 0⟩ := ixT (map_some hlc)
        have hsl : s.1.length = b.length := by rw [h3, narrowTo_len]
        have en := narrowed_ok (bs := s.1.map nD) (l := [.int (c.getD a 0 : Nat)]) (p := (h.watch p).getD a 0) (by rw [List.length_map, hsl]; exact hw _ hm) (by rw [List.length_map]; omega)
        have e5 : D.tup ((s.1.map nD).set ((h.watch p).getD a 0) (.tup [.int (c.getD a 0 : Nat)])) = Box.d (s.1.set ((h.watch p).getD a 0) [c.getD a 0]) := by
          unfold Box.d
          rw [List.map_set]
          rfl
        rw [e5] at en
        have e6 : D.tup (s.1.map nD) = Box.d s.1 := rfl
        rw [e6] at en
        simp -implicitDefEqProofs [-List.getD_eq_getElem?_getD, step1, b_case_box_1, ex1, ex2, en]
      · have := h2 (i + 1) y (by simpa using hy)
        omega
      · rw [List.take_add_one, List.take_add_one, List.getElem?_eq_getElem hlt, List.getElem?_eq_getElem hlc]
        show _ = narrowTo b (List.take a (h.watch p) ++ [_]) (List.take a c ++ [_])
        rw [narrowTo_snoc (by rw [List.length_take, List.length_take]; omega), h3]
        simp [List.getElem?_eq_getElem hlt, List.getElem?_eq_getElem hlc])
  simp only [List.length_nil, Nat.add_zero] at hn1
  subst hn1
  rw [List.take_length, ← hc, List.take_length] at hn3
  rw [hn3] at e
  simp -implicitDefEqProofs [-List.getD_eq_getElem?_getD, c_case_box, m_case_box, watches_of_ok hp, rgB_nat (show (h.watch p).length ≤ 16777216 by omega), rgD_nat', e]
theorem rows_in_ok {c : Row} (hp : p < h.persons.length) (hw : ∀ o ∈ h.watch p, o < b.length) (hc : c.length = (h.watch p).length) (hn : c.length ≤ 100) (hb : BoxOk b) :
    c_rows_in [⟨h.d, 0⟩, ⟨Box.d b, 0⟩, ⟨.int (p : Int), 0⟩, ⟨nD c, 0⟩] = .ok (⟨.tup ((prodL (narrowTo b (h.watch p) c)).map nD), 0⟩, [⟨h.d, 0⟩, ⟨Box.d b, 0⟩, ⟨.int (p : Int), 0⟩, ⟨nD c, 0⟩]) := by
  have hb2 : BoxOk (narrowTo b (h.watch p) c) := by
    refine ⟨by rw [narrowTo_len]; exact hb.len, ?_⟩
    have : ∀ (w : List Nat) (c : Row) (b : Box), (∀ q ∈ b, q.length ≤ 8) → ∀ q ∈ narrowTo b w c, q.length ≤ 8 := by
      intro w
      induction w with
      | nil => intro c b hb; simpa [narrowTo] using hb
      | cons o w ih =>
        intro c b hb
        cases c with
        | nil => simpa [narrowTo] using hb
        | cons x r =>
          rw [narrowTo]
          refine ih r _ fun q hq => ?_
          rcases List.mem_or_eq_of_mem_set hq with z | z
          · exact hb q z
          · rw [z]; simp
    exact this _ _ _ hb.part
  simp -implicitDefEqProofs [c_rows_in, m_rows_in, case_box_ok hp hw hc hb.len hn, rows_of_box hb2]
end
/-! the rows of a case are the rows of the narrowed box -/
def caseR (w : List Nat) (r : Row) : Row := w.map fun o => r.getD o 0
theorem prod_set : ∀ {b : Box} {o x : Nat}, o < b.length → x ∈ b.getD o [] → (b.getD o []).Nodup → prodL (b.set o [x]) = (prodL b).filter fun r => decide (r.getD o 0 = x)
  | [], _, _, h, _, _ => by simp at h
  | q :: b, 0, x, _, hx, hn => by
    have hx : x ∈ q := by simpa using hx
    have hn : q.Nodup := by simpa using hn
    rw [List.set_cons_zero, prodL_cons, prodL_cons]
    generalize prodL b = z
    simp only [List.flatMap_cons, List.flatMap_nil, List.append_nil, List.filter_flatMap, List.filter_map]
    have e : ∀ y, ((fun r : Row => decide (r.getD 0 0 = x)) ∘ fun z => y :: z) = fun _ => decide (y = x) := fun y => rfl
    simp only [e]
    clear e
    induction q with
    | nil => simp at hx
    | cons a q ih =>
      rw [List.flatMap_cons]
      by_cases h : a = x
      · subst h
        have : ∀ y ∈ q, decide (y = a) = false := fun y hy => by
          rw [decide_eq_false_iff_not]
          intro hh
          subst hh
          exact (List.nodup_cons.mp hn).1 hy
        have e2 : (q.flatMap fun y => List.map (fun z => y :: z) (z.filter fun _ => decide (y = a))) = [] := by
          rw [List.flatMap_eq_nil_iff]
          intro y hy
          simp [this y hy]
        rw [e2, List.append_nil, List.filter_eq_self.mpr (fun _ _ => by simp)]
      · have hx' : x ∈ q := by
          rcases List.mem_cons.mp hx with hh | hh
          · exact absurd hh.symm h
          · exact hh
        rw [← ih (by simp) (by simpa using hx') (by simpa using (List.nodup_cons.mp hn).2) hx' (List.nodup_cons.mp hn).2]
        simp [h]
  | q :: b, o + 1, x, h, hx, hn => by
    rw [List.set_cons_succ, prodL_cons, prodL_cons, prod_set (b := b) (o := o) (x := x) (by simpa using h) (by simpa using hx) (by simpa using hn)]
    simp [List.filter_flatMap, List.filter_map, Function.comp_def]
theorem prod_narrow : ∀ {w : List Nat} {c : Row} {b : Box}, w.length = c.length → w.Nodup → (∀ o ∈ w, o < b.length) → (∀ q ∈ b, q.Nodup) → Paired (fun x q => x ∈ q) c (caseBox b w) → prodL (narrowTo b w c) = (prodL b).filter fun r => decide (caseR w r = c)
  | [], [], b, _, _, _, _, _ => by
    rw [narrowTo, List.filter_eq_self.mpr (fun _ _ => by simp [caseR])]
    all_goals simp
  | [], _ :: _, _, h, _, _, _, _ => by simp at h
  | _ :: _, [], _, h, _, _, _, _ => by simp at h
  | o :: w, x :: c, b, hl, hn, hw, hq, hp => by
    cases hp with
    | cons h1 h2 =>
      have ho := hw o (List.mem_cons_self ..)
      have hnd := List.nodup_cons.mp hn
      have hbo : b.getD o [] ∈ b := by simp [List.getElem?_eq_getElem ho]
      have e0 : caseBox (b.set o [x]) w = caseBox b w := by
        unfold caseBox
        refine List.map_congr_left fun y hy => ?_
        have : o ≠ y := fun z => hnd.1 (z ▸ hy)
        simp [List.getElem?_set_ne this]
      rw [narrowTo, prod_narrow (by simpa using hl) hnd.2 (fun y hy => by rw [List.length_set]; exact hw y (List.mem_cons_of_mem _ hy)) (fun q h => by
        rcases List.mem_or_eq_of_mem_set h with z | z
        · exact hq q z
        · rw [z]; simp) (by rw [e0]; exact h2), prod_set ho h1 (hq _ hbo), List.filter_filter]
      refine List.filter_congr fun r _ => ?_
      unfold caseR
      rw [List.map_cons, Bool.and_comm, ← Bool.decide_and]
      simp
end S

/-! S: the houses that the laws draw. -/
namespace S
open Z PySem PySem.Spec PyProof.Rows L2
theorem draw_e {l : List D} {m : Int} (h : DSl l) (h0 : 0 < m) (h1 : m < 1073741824) : ∃ (n : Nat) (l' : List D), c_draw [⟨.lst l, 1⟩, ⟨.int m, 0⟩] = .ok (⟨.int (n : Int), 0⟩, [⟨.lst l', 1⟩, ⟨.int m, 0⟩]) ∧ DSl l' ∧ (n : Int) < m :=
  ⟨_, _, draw_s h h0 h1, h.d, dN_lt h h0 h1⟩
theorem drawN_e {l : List D} {m : Nat} (h : DSl l) (h0 : 0 < m) (h1 : m < 1073741824) : ∃ (n : Nat) (l' : List D), c_draw [⟨.lst l, 1⟩, ⟨.int (m : Int), 0⟩] = .ok (⟨.int (n : Int), 0⟩, [⟨.lst l', 1⟩, ⟨.int (m : Int), 0⟩]) ∧ DSl l' ∧ n < m := by
  obtain ⟨n, l', e, h2, h3⟩ := draw_e (m := (m : Int)) h (by omega) (by omega)
  exact ⟨n, l', e, h2, by omega⟩
theorem pop1_nat {l : List D} {n : Nat} (h : n < l.length) (hl : l.length < 1073741824) : fPop1 l [.int (n : Int)] = .ok (l[n], l.eraseIdx n) := by
  have e : seqIndex? (n : Int) l.length = some n := by
    unfold seqIndex?
    have : ¬ ((n : Int) < 0) := by omega
    simp [this, h]
  unfold fPop1
  simp only [e]
  rw [if_pos ⟨by omega, by omega⟩, List.getElem?_eq_getElem h]
theorem map_eraseIdx' {α β : Type} (f : α → β) : ∀ (l : List α) (n : Nat), (l.eraseIdx n).map f = (l.map f).eraseIdx n
  | [], n => by simp
  | a :: l, 0 => by simp
  | a :: l, n + 1 => by simp [map_eraseIdx' f l n]
theorem law_pop_e {l : List D} {ns : List Str} (h : DSl l) (h0 : 0 < ns.length) (h1 : ns.length < 1073741824) : ∃ (x : Str) (ns' : List Str) (l' : List D), c__law_pop [⟨.lst l, 1⟩, ⟨.lst (ns.map D.str), 1⟩] = .ok (⟨.str x, 0⟩, [⟨.lst l', 1⟩, ⟨.lst (ns'.map D.str), 1⟩]) ∧ DSl l' ∧ ns'.length + 1 = ns.length := by
  obtain ⟨n, l', e, hl', hn⟩ := drawN_e (m := ns.length) h h0 h1
  have hp := pop1_nat (l := ns.map D.str) (n := n) (by simpa using hn) (by simpa using h1)
  refine ⟨ns[n], ns.eraseIdx n, l', ?_, hl', by rw [List.length_eraseIdx]; simp [hn]; omega⟩
  have e2 : (ns.eraseIdx n).map D.str = (ns.map D.str).eraseIdx n := map_eraseIdx' D.str ns n
  rw [e2]
  simp -implicitDefEqProofs [c__law_pop, m__law_pop, e, hp]
def poolT : Str := "a b2 give low z9z slack n m8 aa kind worth p t4 even2 ab1 head u v2 w lowest high mid claim person " ++ "s t e f g h i j k x y q7 deep turn watch l5 hold outcome o c0 d two zz1 near far9 last any2 " ++ "abcdefghijkl b c1 top2 a99999999999 row col7 v k0 k1 p0 yes no o1"
def pool : List Str := Txt.split poolT " "
theorem pool_len : 60 ≤ pool.length ∧ pool.length ≤ 100 := by decide +kernel
theorem f_addS {x y : Str} {k k' : Nat} (h : x.length + y.length ≤ 16777216) : fAdd [⟨.str x, k⟩, ⟨.str y, k'⟩] = .ok ⟨.str (x ++ y), 0⟩ := by
  unfold fAdd
  simp only
  rw [if_pos h]
  rfl
theorem law_pool_ok : c__law_pool [] = .ok (⟨.lst (pool.map D.str), 1⟩, []) := by
  have e1 : fAdd [⟨.str "a b2 give low z9z slack n m8 aa kind worth p t4 even2 ab1 head u v2 w lowest high mid claim person ", 0⟩, ⟨.str "s t e f g h i j k x y q7 deep turn watch l5 hold outcome o c0 d two zz1 near far9 last any2 ", 0⟩] = _ := f_addS (by decide +kernel)
  have e2 : fAdd [⟨.str ("a b2 give low z9z slack n m8 aa kind worth p t4 even2 ab1 head u v2 w lowest high mid claim person " ++ "s t e f g h i j k x y q7 deep turn watch l5 hold outcome o c0 d two zz1 near far9 last any2 "), 0⟩, ⟨.str "abcdefghijkl b c1 top2 a99999999999 row col7 v k0 k1 p0 yes no o1", 0⟩] = .ok ⟨.str poolT, 0⟩ := f_addS (by decide +kernel)
  have e3 : fSplit [⟨.str poolT, 0⟩, ⟨.str " ", 0⟩] = .ok ⟨.lst (pool.map D.str), 1⟩ := by
    unfold fSplit
    simp only
    rw [if_pos (by decide +kernel)]
    rfl
  have ec : isStrD (.str poolT) = true := rfl
  simp -implicitDefEqProofs [c__law_pool, m__law_pool, e1, e2, e3, ec]
/-- numbers up to a million million -/
def Bd (i : Int) : Prop := -1000000000000 ≤ i ∧ i ≤ 1000000000000
theorem law_number_e {l : List D} (h : DSl l) : ∃ (i : Int) (l' : List D), c__law_number [⟨.lst l, 1⟩] = .ok (⟨.int i, 0⟩, [⟨.lst l', 1⟩]) ∧ DSl l' ∧ Bd i := by
  obtain ⟨n, l1, e1, h1, hn⟩ := draw_e (m := 40) h (by decide) (by decide)
  by_cases hn17 : n = 17
  · obtain ⟨m, l2, e2, h2, hm⟩ := draw_e (m := 2000001) h1 (by decide) (by decide)
    refine ⟨((m : Int) - 1000000) * 1000000, l2, ?_, h2, by unfold Bd; omega⟩
    subst hn17
    simp -implicitDefEqProofs [c__law_number, m__law_number, e1, e2, p_mulR (j := 1000000) (by decide)]
  · obtain ⟨m, l2, e2, h2, hm⟩ := draw_e (m := 7) h1 (by decide) (by decide)
    refine ⟨(m : Int) - 3, l2, ?_, h2, by unfold Bd; omega⟩
    have : ¬ (n : Int) = 17 := by omega
    simp -implicitDefEqProofs [c__law_number, m__law_number, e1, e2, this]
theorem law_watching_e {l : List D} {p m : Nat} (h : DSl l) (hm : m ≤ 100) : ∃ (w : List Nat) (l' : List D), c__law_watching [⟨.lst l, 1⟩, ⟨.int (p : Int), 0⟩, ⟨.int (m : Int), 0⟩] = .ok (⟨nD w, 0⟩, [⟨.lst l', 1⟩, ⟨.int (p : Int), 0⟩, ⟨.int (m : Int), 0⟩]) ∧ DSl l' ∧
    w.Pairwise (· < ·) ∧ ∀ o ∈ w, o < m ∧ o ≠ p := by
  obtain ⟨n, l1, e1, h1, hn⟩ := draw_e (m := 3) h (by decide) (by decide)
  by_cases hn1 : n = 1
  · obtain ⟨l2, out, e2, hI1, w, hacc, hI2, hI3, hI4⟩ := comp_rel (it := ⟨(List.range m).map (fun (i : Nat) => D.int (i : Int)), none⟩) (g := gN 3) (tt := t__law_watching_1) (me := e__law_watching_2) (vs := [3]) (ds := List.range m) (s := l1) (acc := []) (fun (i : Nat) => D.int (i : Int))
      (fun l : List D => [some ⟨.lst l, 1⟩, some ⟨.int (p : Int), 0⟩, some ⟨.int (m : Int), 0⟩, none])
      (fun r l acc => DSl l ∧ ∃ w : List Nat, acc = nL w ∧ (∃ k, r = (List.range m).drop k ∧ ∀ o ∈ w, o < k) ∧ w.Pairwise (· < ·) ∧ ∀ o ∈ w, o < m ∧ o ≠ p) ⟨h1, [], rfl, ⟨0, rfl, by simp⟩, by simp, by simp⟩
      (fun a r l acc ⟨h1, w, hw, ⟨k, hk, hk2⟩, hp, hm2⟩ => by
        have hlt : k < (List.range m).length := by
          have := congrArg List.length hk
          simp at this ⊢
          omega
        rw [List.drop_eq_getElem_cons hlt] at hk
        injection hk with ha hr
        rw [List.getElem_range] at ha
        subst ha
        have ham : a < m := by simpa using hlt
        obtain ⟨n2, l2, e2, h2, hn2⟩ := draw_e (m := 2) h1 (by decide) (by decide)
        by_cases hap : a = p
        · refine ⟨l, none, ?_, h1, w, by simp [hw], ⟨a + 1, hr, fun o ho => by have := hk2 o ho; omega⟩, hp, hm2⟩
          simp -implicitDefEqProofs [comp1, t__law_watching_1, hap]
        · have hap' : ¬ (a : Int) = (p : Int) := by omega
          by_cases hn1 : n2 = 1
          · subst hn1
            refine ⟨l2, some (.int (a : Int)), ?_, h2, w ++ [a], by rw [hw]; simp [nL], ⟨a + 1, hr, fun o ho => ?_⟩, ?_, fun o ho => ?_⟩
            · simp -implicitDefEqProofs [comp1, t__law_watching_1, e__law_watching_2, hap', e2]
            · rw [List.mem_append, List.mem_singleton] at ho
              rcases ho with ho | rfl
              · have := hk2 o ho; omega
              · omega
            · rw [List.pairwise_append]
              exact ⟨hp, by simp, fun x hx y hy => by rw [List.mem_singleton] at hy; subst hy; exact hk2 x hx⟩
            · rw [List.mem_append, List.mem_singleton] at ho
              rcases ho with ho | rfl
              · exact hm2 o ho
              · exact ⟨ham, hap⟩
          · have : ¬ (n2 : Int) = 1 := by omega
            refine ⟨l2, none, ?_, h2, w, by simp [hw], ⟨a + 1, hr, fun o ho => by have := hk2 o ho; omega⟩, hp, hm2⟩
            simp -implicitDefEqProofs [comp1, t__law_watching_1, hap', e2, this])
    rw [List.nil_append] at hacc
    subst hacc
    refine ⟨w, l2, ?_, hI1, hI3, hI4⟩
    subst hn1
    simp -implicitDefEqProofs [c__law_watching, m__law_watching, e1, rgB_nat (show m ≤ 16777216 by omega), rgD_nat', e2, show m ≤ 16777216 by omega]
    rfl
  · refine ⟨[], l1, ?_, h1, by simp, by simp⟩
    have : ¬ (n : Int) = 1 := by omega
    simp -implicitDefEqProofs [c__law_watching, m__law_watching, e1, this]
    rfl
end S

/-! S: drawing loops, houses. -/
namespace S
open Z PySem PySem.Spec PyProof.Rows L2
section
variable {α β σ : Type}
theorem comp_draw {it : ItD} {g : MG} {tt : MT} {me : AE} {vs : List Nat} (toD : α → D) (enc : σ → Z.Env) (toE : β → D) (I : σ → Prop) (P : α → β → Prop) {ds : List α} {s : σ} (hs : I s)
    (h : ∀ a ∈ ds, ∀ s, I s → ∃ s' b, comp1 it g tt me vs (toD a) (enc s) = .ok (some (toE b), enc s') ∧ I s' ∧ P a b) :
    ∃ s' bs, loopC it g tt me vs (ds.map toD) (enc s) = .ok (bs.map toE, enc s') ∧ I s' ∧ Paired P ds bs := by
  induction ds generalizing s with
  | nil => exact ⟨s, [], rfl, hs, .nil⟩
  | cons a r ih =>
    obtain ⟨s1, b, e1, h1, hp⟩ := h a (List.mem_cons_self ..) s hs
    obtain ⟨s2, bs, e2, h2, hq⟩ := ih h1 (fun x hx => h x (List.mem_cons_of_mem _ hx))
    exact ⟨s2, b :: bs, by rw [List.map_cons, comp_next e1, e2]; rfl, h2, .cons hp hq⟩
/-- a loop that appends one thing each turn -/
theorem for_app {it : ItD} {g : MG} {body : MS} {L : List Nat} (toD : α → D) (enc : σ → List β → Z.Env) (I : σ → Prop) (P : α → β → Prop) {ds : List α} {s : σ} {acc : List β} (hs : I s) (hl : acc.length + ds.length ≤ 10000)
    (h : ∀ a ∈ ds, ∀ s acc, I s → acc.length ≤ 10000 → ∃ s' b, step1 it g body L (toD a) (enc s acc) = .ok (.next, enc s' (acc ++ [b])) ∧ I s' ∧ P a b) :
    ∃ s' bs, loopF it g body L (ds.map toD) (enc s acc) = .ok (.next, enc s' (acc ++ bs)) ∧ I s' ∧ Paired P ds bs := by
  induction ds generalizing s acc with
  | nil => exact ⟨s, [], by rw [List.append_nil]; rfl, hs, .nil⟩
  | cons a r ih =>
    rw [List.length_cons] at hl
    obtain ⟨s1, b, e1, h1, hp⟩ := h a (List.mem_cons_self ..) s acc hs (by omega)
    obtain ⟨s2, bs, e2, h2, hq⟩ := ih (acc := acc ++ [b]) h1 (by simp; omega) (fun x hx => h x (List.mem_cons_of_mem _ hx))
    exact ⟨s2, b :: bs, by rw [List.map_cons, loop_next e1, e2, List.append_assoc]; rfl, h2, .cons hp hq⟩
/-- the same, with what is left -/
theorem for_app2 {it : ItD} {g : MG} {body : MS} {L : List Nat} (toD : α → D) (enc : σ → List β → Z.Env) (I : List α → σ → Prop) (P : α → β → Prop) {ds : List α} {s : σ} {acc : List β} (hs : I ds s) (hl : acc.length + ds.length ≤ 10000)
    (h : ∀ a r s acc, I (a :: r) s → acc.length ≤ 10000 → ∃ s' b, step1 it g body L (toD a) (enc s acc) = .ok (.next, enc s' (acc ++ [b])) ∧ I r s' ∧ P a b) :
    ∃ s' bs, loopF it g body L (ds.map toD) (enc s acc) = .ok (.next, enc s' (acc ++ bs)) ∧ I [] s' ∧ Paired P ds bs := by
  induction ds generalizing s acc with
  | nil => exact ⟨s, [], by rw [List.append_nil]; rfl, hs, .nil⟩
  | cons a r ih =>
    rw [List.length_cons] at hl
    obtain ⟨s1, b, e1, h1, hp⟩ := h a r s acc hs (by omega)
    obtain ⟨s2, bs, e2, h2, hq⟩ := ih (acc := acc ++ [b]) h1 (by simp; omega)
    exact ⟨s2, b :: bs, by rw [List.map_cons, loop_next e1, e2, List.append_assoc]; rfl, h2, .cons hp hq⟩
theorem pr_len {P : α → β → Prop} {as : List α} {bs : List β} (h : Paired P as bs) : as.length = bs.length := by
  induction h with
  | nil => rfl
  | cons _ _ ih => rw [List.length_cons, List.length_cons, ih]
theorem pr_get {P : α → β → Prop} {as : List α} {bs : List β} (h : Paired P as bs) : ∀ {i : Nat} {a : α} {b : β}, as[i]? = some a → bs[i]? = some b → P a b := by
  induction h with
  | nil => intro i a b h; simp at h
  | cons hp _ ih =>
    intro i a b h1 h2
    cases i with
    | zero => simp at h1 h2; subst h1 h2; exact hp
    | succ i => exact ih (by simpa using h1) (by simpa using h2)
theorem pr_all {P : α → β → Prop} {Q : β → Prop} {as : List α} {bs : List β} (h : Paired P as bs) (hq : ∀ a b, P a b → Q b) : ∀ b ∈ bs, Q b := by
  induction h with
  | nil => intro b hb; simp at hb
  | cons hp _ ih =>
    intro b hb
    rcases List.mem_cons.mp hb with rfl | hb
    · exact hq _ _ hp
    · exact ih b hb
theorem pr_range {P : Nat → β → Prop} {n : Nat} {bs : List β} (h : Paired P (List.range n) bs) {i : Nat} {b : β} (e : bs[i]? = some b) : P i b := by
  have hl := pr_len h
  rw [List.length_range] at hl
  obtain ⟨hi, _⟩ := List.getElem?_eq_some_iff.mp e
  exact pr_get h (by rw [List.getElem?_range (by omega)]) e
end
/-! ### what is drawn -/
structure KindOk (out : Nat) (k : Kind) : Prop where
  n1 : 1 ≤ k.worths.length
  n3 : k.worths.length ≤ 3
  row : ∀ ns ∈ k.worths, ns.length = out ∧ ∀ i ∈ ns, Bd i
structure PrsnOk (np out p size : Nat) (q : Prsn) : Prop where
  nk : q.kinds.length = size
  kind : ∀ k ∈ q.kinds, KindOk out k
  asc : q.watches.Pairwise (· < ·)
  wat : ∀ o ∈ q.watches, o < np ∧ o ≠ p
structure EndOk (np out : Nat) (e : End) : Prop where
  out : e.out < out
  len : e.pays.length = np
  bd : ∀ i ∈ e.pays, Bd i
def rowsN (sizes : List Nat) : Nat := sizes.foldr (· * ·) 1
structure HouseOk (h : House) (sizes : List Nat) : Prop where
  np : h.persons.length = sizes.length
  prs : ∀ (p : Nat) (q : Prsn), h.persons[p]? = some q → PrsnOk sizes.length h.told.length p (sizes.getD p 0) q
  t1 : 1 ≤ h.told.length
  t24 : h.told.length ≤ 24
  ne : h.ends.length = rowsN sizes
  en : ∀ e ∈ h.ends, EndOk sizes.length h.told.length e
  s0 : 0 ≤ h.slack
  s1 : h.slack ≤ 4000000000000
structure SizesOk (sizes : List Nat) : Prop where
  n1 : 1 ≤ sizes.length
  n4 : sizes.length ≤ 4
  s : ∀ x ∈ sizes, 1 ≤ x ∧ x ≤ 8
  rows : rowsN sizes ≤ 256
section
variable {l : List D} {sizes : List Nat} {out worths np pay : Nat} {c1 c2 c3 c4 c5 c6 c7 c8 c9 c10 c11 c12 c13 c14 c15 c16 c17 c18 c19 : Option Cell}
def fz0 (c : Option Cell) : Prop := ∀ x, c = some x → x.k = 0
theorem fz0_none : fz0 none := fun _ h => by cases h
theorem fz0_some {d : D} : fz0 (some ⟨d, 0⟩) := fun _ h => by cases h; rfl
abbrev rgI (n : Nat) : List D := (List.range n).map fun (i : Nat) => D.int (i : Int)
abbrev iC (n : Nat) : Option Cell := some ⟨.int (n : Int), 0⟩
theorem rg_one (n : Nat) (h : n ≤ 1000000) : rgB 0 (1 + (n : Int)) = true ∧ rgD 0 (1 + (n : Int)) = rgI (1 + n) := by
  have e : (1 : Int) + (n : Int) = ((1 + n : Nat) : Int) := by omega
  rw [e]
  exact ⟨rgB_nat (by omega), rgD_nat'⟩
/-- rows of numbers -/
theorem house_row (h : DSl l) {n : Nat} :
    ∃ (l' : List D) (ns : List Int), loopC ⟨rgI n, none⟩ (gN 14) mYes e__law_house_2 [14] (rgI n) [some ⟨.lst l, 1⟩, c1, c2, c3, c4, c5, c6, c7, c8, c9, c10, c11, c12, c13, none, c15, c16, c17, c18, c19] =
      .ok (ns.map D.int, [some ⟨.lst l', 1⟩, c1, c2, c3, c4, c5, c6, c7, c8, c9, c10, c11, c12, c13, none, c15, c16, c17, c18, c19]) ∧ DSl l' ∧ ns.length = n ∧ ∀ i ∈ ns, Bd i := by
  obtain ⟨l', ns, e, h1, hp⟩ := comp_draw (it := ⟨rgI n, none⟩) (g := gN 14) (tt := mYes) (me := e__law_house_2) (vs := [14]) (ds := List.range n) (s := l) (fun (i : Nat) => D.int (i : Int))
    (fun l => [some ⟨.lst l, 1⟩, c1, c2, c3, c4, c5, c6, c7, c8, c9, c10, c11, c12, c13, none, c15, c16, c17, c18, c19]) D.int DSl (fun _ i => Bd i) h (fun a _ l hl => by
      obtain ⟨i, l', e, h1, h2⟩ := law_number_e hl
      exact ⟨l', i, by simp (maxSteps := 1000000) -implicitDefEqProofs [comp1, e__law_house_2, e], h1, h2⟩)
  exact ⟨l', ns, e, h1, by rw [← pr_len hp, List.length_range], pr_all hp fun _ _ z => z⟩
theorem house_worths (h : DSl l) {n : Nat} (ho : out ≤ 10000) (hn : n ≤ 10000) :
    ∃ (l' : List D) (c13' : Option Cell) (ws : List (List Int)), loopF ⟨rgI n, none⟩ (gN 13) b__law_house_3 [0] (rgI n) [some ⟨.lst l, 1⟩, c1, iC out, c3, c4, c5, c6, c7, c8, c9, c10, c11, some ⟨.lst [], 1⟩, c13, none, c15, c16, c17, c18, c19] =
      .ok (.next, [some ⟨.lst l', 1⟩, c1, iC out, c3, c4, c5, c6, c7, c8, c9, c10, c11, some ⟨.lst (ws.map iD), 1⟩, c13', none, c15, c16, c17, c18, c19]) ∧ DSl l' ∧ ws.length = n ∧ ∀ ns ∈ ws, ns.length = out ∧ ∀ i ∈ ns, Bd i := by
  obtain ⟨⟨l', c'⟩, ws, e, h1, hp⟩ := for_app (it := ⟨rgI n, none⟩) (g := gN 13) (body := b__law_house_3) (L := [0]) (ds := List.range n) (s := (l, c13)) (acc := []) (fun (i : Nat) => D.int (i : Int))
    (fun (s : List D × Option Cell) (acc : List (List Int)) => [some ⟨.lst s.1, 1⟩, c1, iC out, c3, c4, c5, c6, c7, c8, c9, c10, c11, some ⟨.lst (acc.map iD), 1⟩, s.2, none, c15, c16, c17, c18, c19]) (fun s => DSl s.1) (fun _ ns => ns.length = out ∧ ∀ i ∈ ns, Bd i) h (by simpa using hn) (fun a _ s acc hs hl => by
      obtain ⟨l2, ns, e, h1, h2, h3⟩ := house_row (c1 := c1) (c2 := iC out) (c3 := c3) (c4 := c4) (c5 := c5) (c6 := c6) (c7 := c7) (c8 := c8) (c9 := c9) (c10 := c10) (c11 := c11) (c12 := some ⟨.lst (acc.map iD), 1⟩) (c13 := iC a) (c15 := c15) (c16 := c16) (c17 := c17) (c18 := c18) (c19 := c19) hs (n := out)
      refine ⟨(l2, iC a), ns, ?_, h1, h2, h3⟩
      have ei : D.tup (ns.map D.int) = iD ns := rfl
      simp (maxSteps := 1000000) -implicitDefEqProofs [step1, b__law_house_3, rgB_nat (show out ≤ 16777216 by omega), rgD_nat', show out ≤ 16777216 by omega, e, f_app (show (acc.map iD).length ≤ 10000 by simpa using hl), ei])
  simp only [List.nil_append] at e
  exact ⟨l', c', ws, e, h1, by rw [← pr_len hp, List.length_range], pr_all hp fun _ _ z => z⟩
theorem law_pop_many {l : List D} {ns : List Str} (h : DSl l) (h0 : 1 ≤ ns.length) (h1 : ns.length ≤ 1000) : ∃ (x : Str) (ns' : List Str) (l' : List D), c__law_pop [⟨.lst l, 1⟩, ⟨.lst (ns.map D.str), 1⟩] = .ok (⟨.str x, 0⟩, [⟨.lst l', 1⟩, ⟨.lst (ns'.map D.str), 1⟩]) ∧ DSl l' ∧ ns'.length + 1 = ns.length := law_pop_e h (by omega) (by omega)
theorem house_kinds (h : DSl l) {n : Nat} (ho : out ≤ 10000) (hw : 1 ≤ worths) (hw3 : worths ≤ 3) {ws : List Str} (hws : n ≤ ws.length) (hw1 : ws.length ≤ 1000) (h7 : fz0 c7) :
    ∃ (l' : List D) (c7' c12' c13' : Option Cell) (ws' : List Str) (ks : List Kind), loopF ⟨rgI n, none⟩ (gN 7) b__law_house_4 [0] (rgI n) [some ⟨.lst l, 1⟩, c1, iC out, iC worths, c4, c5, c6, c7, c8, c9, some ⟨.lst (ws.map D.str), 1⟩, some ⟨.lst [], 1⟩, c12, c13, none, c15, c16, c17, c18, c19] =
      .ok (.next, [some ⟨.lst l', 1⟩, c1, iC out, iC worths, c4, c5, c6, c7', c8, c9, some ⟨.lst (ws'.map D.str), 1⟩, some ⟨.lst (ks.map Kind.d), 1⟩, c12', c13', none, c15, c16, c17, c18, c19]) ∧ DSl l' ∧ fz0 c7' ∧ ks.length = n ∧ ∀ k ∈ ks, KindOk out k := by
  obtain ⟨⟨l', a7, a12, a13, ws'⟩, ks, e, ⟨h1, _, _, g7⟩, hp⟩ := for_app2 (it := ⟨rgI n, none⟩) (g := gN 7) (body := b__law_house_4) (L := [0]) (ds := List.range n) (s := (l, c7, c12, c13, ws)) (acc := []) (fun (i : Nat) => D.int (i : Int))
    (fun (s : List D × Option Cell × Option Cell × Option Cell × List Str) (acc : List Kind) => [some ⟨.lst s.1, 1⟩, c1, iC out, iC worths, c4, c5, c6, s.2.1, c8, c9, some ⟨.lst (s.2.2.2.2.map D.str), 1⟩, some ⟨.lst (acc.map Kind.d), 1⟩, s.2.2.1, s.2.2.2.1, none, c15, c16, c17, c18, c19])
    (fun r s => DSl s.1 ∧ r.length ≤ s.2.2.2.2.length ∧ s.2.2.2.2.length ≤ 1000 ∧ fz0 s.2.1) (fun _ k => KindOk out k) ⟨h, by simpa using hws, hw1, h7⟩ (by simp; omega) (fun a r s acc ⟨hs, hs2, hs3, _⟩ hl => by
      rw [List.length_cons] at hs2
      obtain ⟨n, l1, e1, h1, hn⟩ := drawN_e (m := worths) hs (by omega) (by omega)
      have hr1 := rg_one n (by omega)
      obtain ⟨l2, a13, rs, e2, h2, h3, h4⟩ := house_worths (c1 := c1) (c3 := iC worths) (c4 := c4) (c5 := c5) (c6 := c6) (c7 := iC a) (c8 := c8) (c9 := c9) (c10 := some ⟨.lst (s.2.2.2.2.map D.str), 1⟩) (c11 := some ⟨.lst (acc.map Kind.d), 1⟩) (c13 := s.2.2.2.1) (c15 := c15) (c16 := c16) (c17 := c17) (c18 := c18) (c19 := c19) h1 (n := 1 + n) ho (by omega)
      obtain ⟨x, ws2, l3, e3, h5, h6⟩ := law_pop_many (ns := s.2.2.2.2) h2 (by omega) hs3
      refine ⟨(l3, iC a, some ⟨.lst (rs.map iD), 1⟩, a13, ws2), ⟨x, rs⟩, ?_, ⟨h5, by simp only; omega, by simp only; omega, fz0_some⟩, ⟨by simp only; omega, by simp only; omega, h4⟩⟩
      simp (maxSteps := 1000000) -implicitDefEqProofs [step1, b__law_house_4, e1, hr1.1, hr1.2, e2, e3, f_app (show (acc.map Kind.d).length ≤ 10000 by simpa using hl), Kind.d])
  simp only [List.nil_append] at e
  exact ⟨l', a7, a12, a13, ws', ks, e, h1, g7, by rw [← pr_len hp, List.length_range], pr_all hp fun _ _ z => z⟩
theorem house_persons (h : DSl l) (hs : SizesOk sizes) (ho : out ≤ 10000) (hw : 1 ≤ worths) (hw3 : worths ≤ 3) {ns : List Str} (hns : sizes.length ≤ ns.length) (hn1 : ns.length ≤ 1000) (h7 : fz0 c7) :
    ∃ (l' : List D) (c7' c9' c10' c11' c12' c13' : Option Cell) (ns' : List Str) (ps : List Prsn), loopF ⟨rgI sizes.length, none⟩ (gN 9) b__law_house_5 [0] (rgI sizes.length) [some ⟨.lst l, 1⟩, some ⟨nD sizes, 0⟩, iC out, iC worths, c4, some ⟨.lst (ns.map D.str), 1⟩, c6, c7, some ⟨.lst [], 1⟩, c9, c10, c11, c12, c13, none, c15, c16, c17, c18, c19] =
      .ok (.next, [some ⟨.lst l', 1⟩, some ⟨nD sizes, 0⟩, iC out, iC worths, c4, some ⟨.lst (ns'.map D.str), 1⟩, c6, c7', some ⟨.lst (ps.map Prsn.d), 1⟩, c9', c10', c11', c12', c13', none, c15, c16, c17, c18, c19]) ∧ DSl l' ∧ fz0 c7' ∧ ps.length = sizes.length ∧
      ∀ (p : Nat) (q : Prsn), ps[p]? = some q → PrsnOk sizes.length out p (sizes.getD p 0) q := by
  have h4 := hs.n4
  obtain ⟨⟨l', ns', a7, a9, a10, a11, a12, a13⟩, ps, e, ⟨h1, _, _, _, g7⟩, hp⟩ := for_app2 (it := ⟨rgI sizes.length, none⟩) (g := gN 9) (body := b__law_house_5) (L := [0]) (ds := List.range sizes.length) (s := (l, ns, c7, c9, c10, c11, c12, c13)) (acc := []) (fun (i : Nat) => D.int (i : Int))
    (fun (s : List D × List Str × Option Cell × Option Cell × Option Cell × Option Cell × Option Cell × Option Cell) (acc : List Prsn) => [some ⟨.lst s.1, 1⟩, some ⟨nD sizes, 0⟩, iC out, iC worths, c4, some ⟨.lst (s.2.1.map D.str), 1⟩, c6, s.2.2.1, some ⟨.lst (acc.map Prsn.d), 1⟩, s.2.2.2.1, s.2.2.2.2.1, s.2.2.2.2.2.1, s.2.2.2.2.2.2.1, s.2.2.2.2.2.2.2, none, c15, c16, c17, c18, c19])
    (fun r s => DSl s.1 ∧ r.length ≤ s.2.1.length ∧ s.2.1.length ≤ 1000 ∧ (∀ p ∈ r, p < sizes.length) ∧ fz0 s.2.2.1) (fun p q => PrsnOk sizes.length out p (sizes.getD p 0) q) ⟨h, by simpa using hns, hn1, by simp, h7⟩ (by simp; omega) (fun a r s acc ⟨hs1, hs2, hs3, hs4, hs7⟩ hl => by
      rw [List.length_cons] at hs2
      have ha := hs4 a (List.mem_cons_self ..)
      have hsz := hs.s (sizes.getD a 0) (by simp [List.getElem?_eq_getElem ha])
      have hpl := pool_len
      obtain ⟨l1, a7, a12, a13, ws', ks, e1, h1, g7, h2, h3⟩ := house_kinds (c1 := some ⟨nD sizes, 0⟩) (c4 := c4) (c5 := some ⟨.lst (s.2.1.map D.str), 1⟩) (c6 := c6) (c7 := s.2.2.1) (c8 := some ⟨.lst (acc.map Prsn.d), 1⟩) (c9 := iC a) (c12 := s.2.2.2.2.2.2.1) (c13 := s.2.2.2.2.2.2.2) (c15 := c15) (c16 := c16) (c17 := c17) (c18 := c18) (c19 := c19) hs1 (n := sizes.getD a 0) ho hw hw3 (ws := pool) (by omega) (by omega) hs7
      obtain ⟨x, ns2, l2, e2, h5, h6⟩ := law_pop_many (ns := s.2.1) h1 (by omega) hs3
      obtain ⟨w, l3, e3, h7, h8, h9⟩ := law_watching_e (p := a) (m := sizes.length) h5 (by omega)
      refine ⟨(l3, ns2, a7, iC a, some ⟨.lst (ws'.map D.str), 1⟩, some ⟨.lst (ks.map Kind.d), 1⟩, a12, a13), ⟨x, ks, w⟩, ?_, ⟨h7, by simp only; omega, by simp only; omega, fun p hp => hs4 p (List.mem_cons_of_mem _ hp), g7⟩, ⟨h2, h3, h8, h9⟩⟩
      have ex : fIx [⟨nD sizes, 0⟩, ⟨.int (a : Int), 0⟩] = .ok ⟨.int (sizes.getD a 0 : Nat), 0⟩ := ixT (map_some ha)
      simp (maxSteps := 1000000) -implicitDefEqProofs [-List.getD_eq_getElem?_getD, step1, b__law_house_5, law_pool_ok, ex, rgB_nat (show sizes.getD a 0 ≤ 16777216 by omega), rgD_nat', e1, e2, e3, f_app (show (acc.map Prsn.d).length ≤ 10000 by simpa using hl), Prsn.d])
  simp only [List.nil_append] at e
  exact ⟨l', a7, a9, a10, a11, a12, a13, ns', ps, e, h1, g7, by rw [← pr_len hp, List.length_range], fun p q e => pr_range hp e⟩
end
end S

/-! S: the drawn house as a whole. -/
namespace S
open Z PySem PySem.Spec PyProof.Rows L2
@[simp] theorem isN_non {k k' : Nat} : fIsN [⟨.non, k⟩, ⟨.non, k'⟩] = .ok ⟨.bl true, 0⟩ := rfl
@[simp] theorem isN_tup {l : List D} {k k' : Nat} : fIsN [⟨.tup l, k⟩, ⟨.non, k'⟩] = .ok ⟨.bl false, 0⟩ := rfl
@[simp] theorem isN_int {i : Int} {k k' : Nat} : fIsN [⟨.int i, k⟩, ⟨.non, k'⟩] = .ok ⟨.bl false, 0⟩ := rfl
@[simp] theorem notN_non {k k' : Nat} : fNotN [⟨.non, k⟩, ⟨.non, k'⟩] = .ok ⟨.bl false, 0⟩ := rfl
@[simp] theorem notN_tup {l : List D} {k k' : Nat} : fNotN [⟨.tup l, k⟩, ⟨.non, k'⟩] = .ok ⟨.bl true, 0⟩ := rfl
@[simp] theorem notN_int {i : Int} {k k' : Nat} : fNotN [⟨.int i, k⟩, ⟨.non, k'⟩] = .ok ⟨.bl true, 0⟩ := rfl
theorem foldr_len (sizes : List Nat) : (prodL (sizes.map List.range)).length = rowsN sizes := by
  rw [prodL_length, List.map_map]
  unfold rowsN
  congr 1
  induction sizes with
  | nil => rfl
  | cons a r ih => simp [ih]
section
variable {l : List D} {sizes : List Nat} {out worths np pay : Nat} {c1 c2 c3 c4 c5 c6 c7 c8 c9 c10 c11 c12 c13 c14 c15 c16 c17 c18 c19 : Option Cell}
theorem house_told (h : DSl l) {n : Nat} {ns : List Str} (hn : n ≤ ns.length) (hn1 : ns.length ≤ 1000) :
    ∃ (l' : List D) (ns' ts : List Str), loopC ⟨rgI n, none⟩ (gN 7) mYes e__law_house_1 [7] (rgI n) [some ⟨.lst l, 1⟩, c1, c2, c3, c4, some ⟨.lst (ns.map D.str), 1⟩, c6, none, c8, c9, c10, c11, c12, c13, c14, c15, c16, c17, c18, c19] =
      .ok (ts.map D.str, [some ⟨.lst l', 1⟩, c1, c2, c3, c4, some ⟨.lst (ns'.map D.str), 1⟩, c6, none, c8, c9, c10, c11, c12, c13, c14, c15, c16, c17, c18, c19]) ∧ DSl l' ∧ ts.length = n ∧ ns'.length + n = ns.length := by
  obtain ⟨⟨l', ns'⟩, out, e, h1, ts, rfl, h2, h3⟩ := comp_rel (it := ⟨rgI n, none⟩) (g := gN 7) (tt := mYes) (me := e__law_house_1) (vs := [7]) (ds := List.range n) (s := (l, ns)) (acc := []) (fun (i : Nat) => D.int (i : Int))
    (fun s : List D × List Str => [some ⟨.lst s.1, 1⟩, c1, c2, c3, c4, some ⟨.lst (s.2.map D.str), 1⟩, c6, none, c8, c9, c10, c11, c12, c13, c14, c15, c16, c17, c18, c19]) (fun r s acc => DSl s.1 ∧ ∃ ts : List Str, acc = ts.map D.str ∧ ts.length + r.length = n ∧ s.2.length + ts.length = ns.length) ⟨h, [], rfl, by simp, by simp⟩ (fun a r s acc ⟨h1, ts, hacc, h2, h3⟩ => by
      rw [List.length_cons] at h2
      obtain ⟨x, ns2, l2, e, h4, h5⟩ := law_pop_many (ns := s.2) h1 (by omega) (by omega)
      refine ⟨(l2, ns2), some (.str x), ?_, h4, ts ++ [x], by simp [hacc], by simp; omega, by simp; omega⟩
      simp -implicitDefEqProofs [comp1, e__law_house_1, e])
  simp only [List.nil_append] at e h1 h2 h3 ⊢
  exact ⟨l', ns', ts, e, h1, by simpa using h2, by simp at h2; omega⟩
theorem house_paid (h : DSl l) {sz : List Nat} (hp : pay ≤ 1000) :
    ∃ (l' : List D) (ns : List Int), loopC ⟨nL sz, none⟩ (gN 7) mYes e__law_house_7 [7] (nL sz) [some ⟨.lst l, 1⟩, c1, c2, c3, iC pay, c5, c6, none, c8, c9, c10, c11, c12, c13, c14, c15, c16, c17, c18, c19] =
      .ok (ns.map D.int, [some ⟨.lst l', 1⟩, c1, c2, c3, iC pay, c5, c6, none, c8, c9, c10, c11, c12, c13, c14, c15, c16, c17, c18, c19]) ∧ DSl l' ∧ ns.length = sz.length ∧ ∀ i ∈ ns, Bd i := by
  obtain ⟨l', ns, e, h1, hp⟩ := comp_draw (it := ⟨nL sz, none⟩) (g := gN 7) (tt := mYes) (me := e__law_house_7) (vs := [7]) (ds := sz) (s := l) (fun (i : Nat) => D.int (i : Int))
    (fun l => [some ⟨.lst l, 1⟩, c1, c2, c3, iC pay, c5, c6, none, c8, c9, c10, c11, c12, c13, c14, c15, c16, c17, c18, c19]) D.int DSl (fun _ i => Bd i) h (fun a _ l hl => by
      obtain ⟨n, l', e, h1, h2⟩ := draw_e (m := 2 * (pay : Int) + 1) hl (by omega) (by omega)
      refine ⟨l', (n : Int) - pay, ?_, h1, by unfold Bd; omega⟩
      simp -implicitDefEqProofs [comp1, e__law_house_7, p_mulR (i := 2) (j := (pay : Int)) ⟨by omega, by omega⟩, e])
  exact ⟨l', ns, e, h1, by rw [← pr_len hp], pr_all hp fun _ _ z => z⟩
def lastD : Option End → D
  | none => .non
  | some e => e.d
theorem house_ends (h : DSl l) (hp : pay ≤ 1000) (ho : 1 ≤ out) (ho2 : out ≤ 1000) (h7 : fz0 c7) (hsz : sizes.length ≤ 1000) {rows : List Row} (hr : rows.length ≤ 5000) :
    ∃ (l' : List D) (c16' c17' : Option Cell) (es : List End), loopF ⟨rows.map nD, none⟩ (gN 17) b__law_house_8 [0] (rows.map nD) [some ⟨.lst l, 1⟩, some ⟨nD sizes, 0⟩, iC out, c3, iC pay, c5, c6, c7, c8, c9, c10, c11, c12, c13, c14, some ⟨.lst [], 1⟩, some ⟨.non, 0⟩, c17, c18, c19] =
      .ok (.next, [some ⟨.lst l', 1⟩, some ⟨nD sizes, 0⟩, iC out, c3, iC pay, c5, c6, c7, c8, c9, c10, c11, c12, c13, c14, some ⟨.lst (es.map End.d), 1⟩, c16', c17', c18, c19]) ∧ DSl l' ∧ es.length = rows.length ∧ ∀ e ∈ es, EndOk sizes.length out e := by
  have h7' : c7 = none ∨ ∃ d, c7 = some ⟨d, 0⟩ := by
    cases c7 with
    | none => exact .inl rfl
    | some c =>
      obtain ⟨d, k⟩ := c
      have := h7 _ rfl
      simp only at this
      subst this
      exact .inr ⟨d, rfl⟩
  clear h7
  obtain ⟨⟨l', la, a17⟩, es, e, ⟨h1, _⟩, hp⟩ := for_app2 (it := ⟨rows.map nD, none⟩) (g := gN 17) (body := b__law_house_8) (L := [0]) (ds := rows) (s := (l, none, c17)) (acc := []) nD
    (fun (s : List D × Option End × Option Cell) (acc : List End) => [some ⟨.lst s.1, 1⟩, some ⟨nD sizes, 0⟩, iC out, c3, iC pay, c5, c6, c7, c8, c9, c10, c11, c12, c13, c14, some ⟨.lst (acc.map End.d), 1⟩, some ⟨lastD s.2.1, 0⟩, s.2.2, c18, c19])
    (fun r s => DSl s.1 ∧ ∀ e, s.2.1 = some e → EndOk sizes.length out e) (fun _ e => EndOk sizes.length out e) ⟨h, fun _ z => by cases z⟩ (by simp; omega) (fun a r s acc ⟨hs, hs2⟩ hl => by
      have main : ∀ l1, DSl l1 → ∃ (l3 : List D) (n : Nat) (ns : List Int), c_draw [⟨.lst l1, 1⟩, ⟨.int (out : Int), 0⟩] = .ok (⟨.int (n : Int), 0⟩, [⟨.lst (dL l1 out), 1⟩, ⟨.int (out : Int), 0⟩]) ∧ EndOk sizes.length out ⟨n, ns⟩ ∧ DSl l3 ∧ loopC ⟨nL sizes, none⟩ (gN 7) mYes e__law_house_7 [7] (nL sizes) [some ⟨.lst (dL l1 out), 1⟩, some ⟨nD sizes, 0⟩, iC out, c3, iC pay, c5, c6, none, c8, c9, c10, c11, c12, c13, c14, some ⟨.lst (acc.map End.d), 1⟩, some ⟨lastD s.2.1, 0⟩, some ⟨nD a, 0⟩, c18, c19] =
          .ok (ns.map D.int, [some ⟨.lst l3, 1⟩, some ⟨nD sizes, 0⟩, iC out, c3, iC pay, c5, c6, none, c8, c9, c10, c11, c12, c13, c14, some ⟨.lst (acc.map End.d), 1⟩, some ⟨lastD s.2.1, 0⟩, some ⟨nD a, 0⟩, c18, c19]) := fun l1 h1 => by
        obtain ⟨l3, ns, e3, h3, h4, h5⟩ := house_paid (c1 := some ⟨nD sizes, 0⟩) (c2 := iC out) (c3 := c3) (c5 := c5) (c6 := c6) (c8 := c8) (c9 := c9) (c10 := c10) (c11 := c11) (c12 := c12) (c13 := c13) (c14 := c14) (c15 := some ⟨.lst (acc.map End.d), 1⟩) (c16 := some ⟨lastD s.2.1, 0⟩) (c17 := some ⟨nD a, 0⟩) (c18 := c18) (c19 := c19) (h1.d (m := (out : Int))) (sz := sizes) hp
        exact ⟨l3, dN l1 out, ns, draw_s h1 (by omega) (by omega), ⟨dN_ltN h1 (by omega) (by omega), h4, h5⟩, h3, e3⟩
      have hos : ∀ ns : List Int, D.tup (ns.map D.int) = iD ns := fun _ => rfl
      have hla : (acc.map End.d).length ≤ 10000 := by simpa using hl
      have hsl : sizes.length ≤ 16777216 := by omega
      cases hla2 : s.2.1 with
      | none =>
        obtain ⟨l3, n, ns, e1, h1, h2, e2⟩ := main s.1 hs
        refine ⟨(l3, some ⟨n, ns⟩, some ⟨nD a, 0⟩), ⟨n, ns⟩, ?_, ⟨h2, fun e he => by cases he; exact h1⟩, h1⟩
        rw [hla2] at e2
        simp only [lastD] at e2 ⊢
        rcases h7' with rfl | ⟨d7, rfl⟩ <;> simp (maxSteps := 1000000) -implicitDefEqProofs [step1, b__law_house_8, hla2, e1, hsl, e2, hos, f_app hla, End.d, lastD]
      | some la =>
        obtain ⟨n0, l1, e0, hl1, hn0⟩ := draw_e (m := 3) hs (by decide) (by decide)
        by_cases hn1 : n0 = 1
        · subst hn1
          refine ⟨(l1, some la, some ⟨nD a, 0⟩), la, ?_, ⟨hl1, fun e he => by cases he; exact hs2 _ hla2⟩, hs2 _ hla2⟩
          rcases h7' with rfl | ⟨d7, rfl⟩ <;> simp (maxSteps := 1000000) -implicitDefEqProofs [step1, b__law_house_8, hla2, e0, f_app hla, End.d, lastD]
        · have hn1' : ¬ (n0 : Int) = 1 := by omega
          obtain ⟨l3, n, ns, e1, h1, h2, e2⟩ := main l1 hl1
          refine ⟨(l3, some ⟨n, ns⟩, some ⟨nD a, 0⟩), ⟨n, ns⟩, ?_, ⟨h2, fun e he => by cases he; exact h1⟩, h1⟩
          rw [hla2] at e2
          simp only [lastD, End.d] at e2 ⊢
          rcases h7' with rfl | ⟨d7, rfl⟩ <;> simp (maxSteps := 1000000) -implicitDefEqProofs [step1, b__law_house_8, hla2, e0, hn1', e1, hsl, e2, hos, f_app hla, End.d, lastD])
  simp only [List.nil_append] at e
  exact ⟨l', _, a17, es, e, h1, by rw [← pr_len hp], pr_all hp fun _ _ z => z⟩
end
end S

/-! S: the drawn house. -/
namespace S
open Z PySem PySem.Spec PyProof.Rows L2
def rowsOf (sizes : List Nat) : List Row := prodL (sizes.map List.range)
theorem rows_sizes {sizes : List Nat} (hs : SizesOk sizes) : c__law_rows [⟨.lst (sizes.map fun s => D.lst (rgI s)), 1⟩] = .ok (⟨.lst ((rowsOf sizes).map nD), 1⟩, [⟨.lst (sizes.map fun s => D.lst (rgI s)), 1⟩]) := by
  have h4 := hs.n4
  have e := law_rowsG_ok D.lst (fun _ => rfl) (parts := sizes.map rgI) (k := 1) (c := .lst ((sizes.map rgI).map D.lst)) (.inr ⟨rfl, rfl⟩) (by simp; omega) (fun p hp => by
    obtain ⟨s, h1, rfl⟩ := List.mem_map.mp hp
    have := (hs.s s h1).2
    simpa [rgI] using this)
  have e1 : (sizes.map rgI).map D.lst = sizes.map fun s => D.lst (rgI s) := by rw [List.map_map]; rfl
  have e2 : (prodL (sizes.map rgI)).map D.tup = (rowsOf sizes).map nD := by
    have : sizes.map rgI = (sizes.map List.range).map fun p => p.map fun (i : Nat) => D.int (i : Int) := by rw [List.map_map]; rfl
    rw [this, prodL_map, List.map_map]
    rfl
  rw [e1, e2] at e
  exact e
theorem rowsOf_len {sizes : List Nat} : (rowsOf sizes).length = rowsN sizes := foldr_len sizes
theorem rgOk_nat {n : Nat} (h : n ≤ 1000000) : rgOkB 0 (n : Int) = true := by
  unfold rgOkB rgB
  simp only [Bool.and_eq_true, decide_eq_true_eq]
  omega
theorem sizes_lists {c0 c1 c2 c3 c4 c5 c6 c7 c8 c9 c10 c11 c12 c13 c14 c15 c16 c17 c19 : Option Cell} {sizes : List Nat} (hs : SizesOk sizes) :
    loopC ⟨nL sizes, none⟩ (gN 18) mYes e__law_house_6 [18] (nL sizes) [c0, c1, c2, c3, c4, c5, c6, c7, c8, c9, c10, c11, c12, c13, c14, c15, c16, c17, none, c19] = .ok (sizes.map fun s => D.lst (rgI s), [c0, c1, c2, c3, c4, c5, c6, c7, c8, c9, c10, c11, c12, c13, c14, c15, c16, c17, none, c19]) := by
  have h1 : ∀ s ∈ sizes, comp1 ⟨nL sizes, none⟩ (gN 18) mYes e__law_house_6 [18] (D.int (s : Int)) [c0, c1, c2, c3, c4, c5, c6, c7, c8, c9, c10, c11, c12, c13, c14, c15, c16, c17, none, c19] = .ok (some (D.lst (rgI s)), [c0, c1, c2, c3, c4, c5, c6, c7, c8, c9, c10, c11, c12, c13, c14, c15, c16, c17, none, c19]) := fun s h => by
    have h8 := (hs.s s h).2
    have e1 : rgOkB 0 (s : Int) = true := rgOk_nat (by omega)
    simp -implicitDefEqProofs [comp1, e__law_house_6, e1, rgD_nat']
  exact comp_m (it := ⟨nL sizes, none⟩) (fun (i : Nat) => D.int (i : Int)) (fun s => D.lst (rgI s)) (ds := sizes) h1
theorem law_house_e {l : List D} {sizes : List Nat} {out worths pay : Nat} (h : DSl l) (hs : SizesOk sizes) (ho : 1 ≤ out) (ho2 : out ≤ 24) (hw : 1 ≤ worths) (hw3 : worths ≤ 3) (hp : pay ≤ 1000) :
    ∃ (H : House) (l' : List D), c__law_house [⟨.lst l, 1⟩, ⟨nD sizes, 0⟩, ⟨.int (out : Int), 0⟩, ⟨.int (worths : Int), 0⟩, ⟨.int (pay : Int), 0⟩] = .ok (⟨H.d, 0⟩, [⟨.lst l', 1⟩, ⟨nD sizes, 0⟩, ⟨.int (out : Int), 0⟩, ⟨.int (worths : Int), 0⟩, ⟨.int (pay : Int), 0⟩]) ∧ DSl l' ∧ HouseOk H sizes := by
  have h4 := hs.n4
  have hpl := pool_len
  obtain ⟨l1, ns1, ts, e1, g1, ht, hns⟩ := house_told (c1 := some ⟨nD sizes, 0⟩) (c2 := iC out) (c3 := iC worths) (c4 := iC pay) (c6 := none) (c8 := none) (c9 := none) (c10 := none) (c11 := none) (c12 := none) (c13 := none) (c14 := none) (c15 := none) (c16 := none) (c17 := none) (c18 := none) (c19 := none) h (n := out) (ns := pool) (by omega) (by omega)
  obtain ⟨l2, a7, a9, a10, a11, a12, a13, ns2, ps, e2, g2, g7, hps, hpr⟩ := house_persons (c4 := iC pay) (c6 := some ⟨.tup (ts.map D.str), 0⟩) (c7 := none) (c9 := none) (c10 := none) (c11 := none) (c12 := none) (c13 := none) (c15 := none) (c16 := none) (c17 := none) (c18 := none) (c19 := none) g1 hs (out := out) (worths := worths) (by omega) hw hw3 (ns := ns1) (by omega) (by omega) fz0_none
  have e3 := sizes_lists (c0 := some ⟨.lst l2, 1⟩) (c1 := some ⟨nD sizes, 0⟩) (c2 := iC out) (c3 := iC worths) (c4 := iC pay) (c5 := some ⟨.lst (ns2.map D.str), 1⟩) (c6 := some ⟨.tup (ts.map D.str), 0⟩) (c7 := a7) (c8 := some ⟨.lst (ps.map Prsn.d), 1⟩) (c9 := a9) (c10 := a10) (c11 := a11) (c12 := a12) (c13 := a13) (c14 := none) (c15 := some ⟨.lst [], 1⟩) (c16 := some ⟨.non, 0⟩) (c17 := none) (c19 := none) hs
  have hr := hs.rows
  obtain ⟨l3, a16, a17, es, e4, g3, hel, he⟩ := house_ends (sizes := sizes) (c3 := iC worths) (c5 := some ⟨.lst (ns2.map D.str), 1⟩) (c6 := some ⟨.tup (ts.map D.str), 0⟩) (c7 := a7) (c8 := some ⟨.lst (ps.map Prsn.d), 1⟩) (c9 := a9) (c10 := a10) (c11 := a11) (c12 := a12) (c13 := a13) (c14 := none) (c17 := none) (c18 := none) (c19 := none) g2 hp ho (by omega) g7 (by omega) (rows := rowsOf sizes) (by rw [rowsOf_len]; omega)
  obtain ⟨n4, l4, e5, g4, hn4⟩ := draw_e (m := 4) g3 (by decide) (by decide)
  have hko : ∀ sl : Int, 0 ≤ sl → sl ≤ 4 → HouseOk ⟨ts, ps, es, sl⟩ sizes := fun sl h0 h1 => ⟨hps, by
    intro p q hq
    have := hpr p q hq
    rw [← ht] at this
    exact this, by simp only; omega, by simp only; omega, by rw [hel, rowsOf_len], fun e h => by
    have := he e h
    rw [← ht] at this
    exact this, h0, by simp only; omega⟩
  have hsl : sizes.length ≤ 16777216 := by omega
  have hol : out ≤ 16777216 := by omega
  by_cases hn1 : n4 = 1
  · obtain ⟨n5, l5, e6, g5, hn5⟩ := draw_e (m := 4) g4 (by decide) (by decide)
    refine ⟨⟨ts, ps, es, 1 + n5⟩, l5, ?_, g5, hko _ (by omega) (by omega)⟩
    subst hn1
    simp (maxSteps := 1000000) -implicitDefEqProofs [c__law_house, m__law_house, law_pool_ok, rgB_nat hol, rgD_nat', e1, rgB_nat hsl, e2, e3, rows_sizes hs, e4, e5, e6, House.d, hsl, hol]
  · have hn1' : ¬ (n4 : Int) = 1 := by omega
    refine ⟨⟨ts, ps, es, 0⟩, l4, ?_, g4, hko _ (by omega) (by omega)⟩
    simp (maxSteps := 1000000) -implicitDefEqProofs [c__law_house, m__law_house, law_pool_ok, rgB_nat hol, rgD_nat', e1, rgB_nat hsl, e2, e3, rows_sizes hs, e4, e5, hn1', House.d, hsl, hol]
end S

/-! S: sizes, whole boxes, cases, drawn boxes. -/
namespace S
open Z PySem PySem.Spec PyProof.Rows L2
def menu : List (List Nat) := [[2, 2], [3, 2], [2, 2, 2], [2, 3], [3, 3], [1, 3], [2, 1, 2], [4, 2], [3], [2, 3, 2], [1], [2, 5], [3, 4], [2, 2, 3], [1, 1], [2, 2, 2, 2], [6, 2], [3, 2, 3], [4, 4], [8, 2], [1, 2, 1, 3],
  [3, 3, 2], [3, 3, 3], [2, 8], [4, 2, 3], [5, 5], [2, 2, 2, 4], [8, 3], [4, 3, 3], [8, 8], [4, 4, 4]]
theorem menu_ok : ∀ s ∈ menu, SizesOk s ∧ rowsN s ≤ 64 := by
  have h : menu.all (fun s => decide (1 ≤ s.length) && decide (s.length ≤ 4) && s.all (fun x => decide (1 ≤ x) && decide (x ≤ 8)) && decide (rowsN s ≤ 64)) = true := by decide +kernel
  intro s hs
  have := List.all_eq_true.mp h s hs
  simp only [Bool.and_eq_true, decide_eq_true_eq, List.all_eq_true] at this
  exact ⟨⟨this.1.1.1, this.1.1.2, this.1.2, by omega⟩, this.2⟩
theorem foldl_mul (s : List Nat) : ∀ a : Nat, s.foldl (· * ·) a = a * rowsN s := by
  induction s with
  | nil => intro a; simp [rowsN]
  | cons x r ih => intro a; rw [List.foldl_cons, ih]; simp [rowsN, Nat.mul_assoc]
theorem law_sizes_e {l : List D} {lim : Nat} (h : DSl l) (hl : 1 ≤ lim) (hl2 : lim ≤ 256) : ∃ (s : List Nat) (l' : List D), c__law_sizes [⟨.lst l, 1⟩, ⟨.int (lim : Int), 0⟩] = .ok (⟨nD s, 0⟩, [⟨.lst l', 1⟩, ⟨.int (lim : Int), 0⟩]) ∧ DSl l' ∧ SizesOk s ∧ rowsN s ≤ lim := by
  have inner : ∀ (s : List Nat) (c0 c2 c3 c4 c6 : Option Cell), (∀ x ∈ s, x ≤ 8) → ∃ c6', loopF ⟨nL s, none⟩ (gN 6) b__law_sizes_1 [2, 0] (nL s) [c0, iC lim, c2, c3, c4, some ⟨.int 1, 0⟩, c6] = .ok (.next, [c0, iC lim, c2, c3, c4, iC (rowsN s), c6']) := by
    intro s c0 c2 c3 c4 c6 hs
    obtain ⟨e, _⟩ := for_fold (it := ⟨nL s, none⟩) (g := gN 6) (body := b__law_sizes_1) (L := [2, 0]) (ds := s) (s := ((1 : Nat), c6)) (fun (i : Nat) => D.int (i : Int)) (fun s => [c0, iC lim, c2, c3, c4, iC s.1, s.2])
      (fun s x => (s.1 * x, iC x)) (fun r _ => ∀ x ∈ r, x ≤ 8) hs (fun a r s hr => by
        have ha := hr a (List.mem_cons_self ..)
        refine ⟨?_, fun x hx => hr x (List.mem_cons_of_mem _ hx)⟩
        simp -implicitDefEqProofs [step1, b__law_sizes_1, p_mulR (i := (s.1 : Int)) (j := (a : Int)) ⟨by omega, by omega⟩])
    have e2 : ∀ (l : List Nat) (s : Nat × Option Cell), (l.foldl (fun (s : Nat × Option Cell) x => (s.1 * x, iC x)) s).1 = l.foldl (· * ·) s.1 := by
      intro l
      induction l with
      | nil => intro s; rfl
      | cons a r ih => intro s; rw [List.foldl_cons, List.foldl_cons, ih]
    rw [e2, foldl_mul] at e
    dsimp only at e
    rw [Nat.one_mul] at e
    exact ⟨_, e⟩
  obtain ⟨s', e, done, h1, h2⟩ := for_rel (it := ⟨menu.map nD, some 2⟩) (g := gN 4) (body := b__law_sizes_2) (L := [2, 0]) (ds := menu) (s := ([], none, none, none)) nD (fun s : List (List Nat) × Option Cell × Option Cell × Option Cell => [some ⟨.lst l, 1⟩, iC lim, some ⟨.lst (menu.map nD), 1⟩, some ⟨.lst (s.1.map nD), 1⟩, s.2.1, s.2.2.1, s.2.2.2])
    (fun rest s => ∃ done, menu = done ++ rest ∧ s.1 = done.filter fun s => decide (rowsN s ≤ lim)) ⟨[], rfl, rfl⟩ (fun a r s ⟨done, h1, h2⟩ => by
      have ha := (menu_ok a (by rw [h1]; simp)).1
      obtain ⟨c6', e⟩ := inner a (some ⟨.lst l, 1⟩) (some ⟨.lst (menu.map nD), 1⟩) (some ⟨.lst (s.1.map nD), 1⟩) (some ⟨nD a, 0⟩) s.2.2.2 (fun x hx => (ha.s x hx).2)
      have hlen : (s.1.map nD).length ≤ 10000 := by
        have h3 : done.length ≤ menu.length := by rw [h1]; simp
        have h4 : menu.length = 31 := rfl
        have h5 : s.1.length ≤ done.length := by rw [h2]; exact List.length_filter_le ..
        simp; omega
      by_cases hc : rowsN a ≤ lim
      · refine ⟨(s.1 ++ [a], some ⟨nD a, 0⟩, iC (rowsN a), c6'), ?_, done ++ [a], by simp [h1], by simp [h2, hc, List.filter_append]⟩
        have hc' : (rowsN a : Int) ≤ lim := by omega
        simp (maxSteps := 1000000) -implicitDefEqProofs [step1, b__law_sizes_2, e, hc, f_app hlen]
      · refine ⟨(s.1, some ⟨nD a, 0⟩, iC (rowsN a), c6'), ?_, done ++ [a], by simp [h1], by simp [h2, hc, List.filter_append]⟩
        have hc' : ¬ (rowsN a : Int) ≤ lim := by omega
        simp (maxSteps := 1000000) -implicitDefEqProofs [step1, b__law_sizes_2, e, hc])
  rw [List.append_nil] at h1
  subst h1
  generalize hfd : s'.1 = fd at *
  have hne : 0 < fd.length := by
    have : [1] ∈ fd := by
      rw [h2, List.mem_filter]
      exact ⟨by decide, by rw [decide_eq_true_eq]; exact Nat.le_trans (by decide) hl⟩
    exact List.length_pos_of_mem this
  have hlen : fd.length ≤ 31 := by
    rw [h2]
    exact Nat.le_trans (List.length_filter_le ..) (by decide)
  have hp := pickL_s (l := l) (row := fd.map nD) (k := 1) (by decide) h (by simpa using hne) (by simp; omega)
  have hn := dN_ltN (l := l) (m := fd.length) h hne (by omega)
  rw [List.length_map] at hp
  have hg : (fd.map nD).getD (dN l (fd.length : Nat)) .non = nD (fd.getD (dN l (fd.length : Nat)) []) := by simp [List.getElem?_eq_getElem hn]
  have hmem : fd.getD (dN l (fd.length : Nat)) [] ∈ fd := by simp [List.getElem?_eq_getElem hn]
  rw [hg] at hp
  have hm2 : fd.getD (dN l (fd.length : Nat)) [] ∈ menu ∧ rowsN (fd.getD (dN l (fd.length : Nat)) []) ≤ lim := by
    have h3 : ∀ x ∈ fd, x ∈ menu ∧ rowsN x ≤ lim := fun x hx => by
      rw [h2] at hx
      exact ⟨(List.mem_filter.mp hx).1, of_decide_eq_true (List.mem_filter.mp hx).2⟩
    exact h3 _ hmem
  refine ⟨fd.getD (dN l (fd.length : Nat)) [], dL l (fd.length : Nat), ?_, h.d, (menu_ok _ hm2.1).1, hm2.2⟩
  · have hm : ([D.tup [.int 2, .int 2], .tup [.int 3, .int 2], .tup [.int 2, .int 2, .int 2], .tup [.int 2, .int 3], .tup [.int 3, .int 3], .tup [.int 1, .int 3], .tup [.int 2, .int 1, .int 2], .tup [.int 4, .int 2], .tup [.int 3], .tup [.int 2, .int 3, .int 2], .tup [.int 1], .tup [.int 2, .int 5],
        .tup [.int 3, .int 4], .tup [.int 2, .int 2, .int 3], .tup [.int 1, .int 1], .tup [.int 2, .int 2, .int 2, .int 2], .tup [.int 6, .int 2], .tup [.int 3, .int 2, .int 3], .tup [.int 4, .int 4], .tup [.int 8, .int 2], .tup [.int 1, .int 2, .int 1, .int 3],
        .tup [.int 3, .int 3, .int 2], .tup [.int 3, .int 3, .int 3], .tup [.int 2, .int 8], .tup [.int 4, .int 2, .int 3], .tup [.int 5, .int 5], .tup [.int 2, .int 2, .int 2, .int 4], .tup [.int 8, .int 3], .tup [.int 4, .int 3, .int 3], .tup [.int 8, .int 8], .tup [.int 4, .int 4, .int 4]] : List D) = menu.map nD := rfl
    dsimp only at e
    have e0 : ([] : List (List Nat)).map nD = [] := rfl
    rw [e0] at e
    simp (maxSteps := 1000000) -implicitDefEqProofs [-List.getD_eq_getElem?_getD, c__law_sizes, m__law_sizes, f_addL, hm, e, hp]
/-! whole boxes -/
def House.whole (h : House) : Box := h.persons.map fun q => List.range q.kinds.length
theorem law_whole_ok {h : House} {sizes : List Nat} (ho : HouseOk h sizes) (hs : SizesOk sizes) : c__law_whole [⟨h.d, 0⟩] = .ok (⟨Box.d h.whole, 0⟩, [⟨h.d, 0⟩]) := by
  have h4 := hs.n4
  have hnp := ho.np
  have e := comp_m (it := ⟨h.persons.map Prsn.d, none⟩) (g := gN 1) (tt := mYes) (me := e__law_whole_1) (vs := [1]) (ρ := [some ⟨h.d, 0⟩, none]) Prsn.d (fun q => nD (List.range q.kinds.length)) (ds := h.persons) (fun q hq => by
    obtain ⟨i, hi⟩ := List.mem_iff_getElem?.mp hq
    have hk := (ho.prs i q hi).nk
    have hi2 : i < sizes.length := by
      have := (List.getElem?_eq_some_iff.mp hi).1
      omega
    have hsz := hs.s (sizes.getD i 0) (by simp [List.getElem?_eq_getElem hi2])
    have e1 : rgOkB 0 ((q.kinds.length : Nat) : Int) = true := rgOk_nat (by omega)
    simp -implicitDefEqProofs [comp1, e__law_whole_1, Prsn.at1, e1, rgD_nL]
    rfl)
  have e2 : h.persons.map (fun q => nD (List.range q.kinds.length)) = h.whole.map nD := by simp [House.whole]
  rw [e2] at e
  simp -implicitDefEqProofs [c__law_whole, m__law_whole, House.at2, e, show h.persons.length ≤ 16777216 by omega]
  rfl
theorem whole_ok {h : House} {sizes : List Nat} (ho : HouseOk h sizes) : h.whole = sizes.map List.range := by
  unfold House.whole
  refine List.ext_getElem (by simp [ho.np]) fun i h1 h2 => ?_
  simp only [List.length_map] at h1 h2
  have hk := (ho.prs i h.persons[i] (List.getElem?_eq_getElem h1)).nk
  simp only [List.getElem_map]
  rw [hk]
  simp [List.getElem?_eq_getElem h2]
/-! cases -/
theorem law_case_ok {h : House} {p : Nat} {row : Row} (hp : p < h.persons.length) (hw : ∀ o ∈ h.watch p, o < row.length) (hl : (h.watch p).length ≤ 1000) : c__law_case [⟨h.d, 0⟩, ⟨.int (p : Int), 0⟩, ⟨nD row, 0⟩] = .ok (⟨nD (caseR (h.watch p) row), 0⟩, [⟨h.d, 0⟩, ⟨.int (p : Int), 0⟩, ⟨nD row, 0⟩]) := by
  have e := comp_m (it := ⟨nL (h.watch p), none⟩) (g := gN 3) (tt := mYes) (me := e__law_case_1) (vs := [3]) (ρ := [some ⟨h.d, 0⟩, some ⟨.int (p : Int), 0⟩, some ⟨nD row, 0⟩, none]) (fun (i : Nat) => D.int (i : Int)) (fun o => .int (row.getD o 0 : Nat)) (ds := h.watch p) (fun o hO => by
    have ex : fIx [⟨nD row, 0⟩, ⟨.int (o : Int), 0⟩] = .ok ⟨.int (row.getD o 0 : Nat), 0⟩ := ixT (map_some (hw o hO))
    simp -implicitDefEqProofs [-List.getD_eq_getElem?_getD, comp1, e__law_case_1, ex])
  have e2 : (h.watch p).map (fun o => D.int (row.getD o 0 : Nat)) = nL (caseR (h.watch p) row) := by simp [nL, caseR]
  rw [e2] at e
  have e3 : (h.watch p).map (fun (i : Nat) => D.int (i : Int)) = nL (h.watch p) := rfl
  rw [e3] at e
  have ea : fIx [⟨(h.persons.getD p default).d, 0⟩, ⟨.int 2, 0⟩] = .ok ⟨nD (h.watch p), 0⟩ := Prsn.at2
  simp -implicitDefEqProofs [-List.getD_eq_getElem?_getD, c__law_case, m__law_case, House.at2, House.atP hp, ea, e, show (h.watch p).length ≤ 16777216 by omega]
  rfl
/-! drawn boxes -/
structure BoxIn (b w : Box) : Prop where
  len : b.length = w.length
  sub : ∀ (i : Nat) (q z : List Nat), b[i]? = some q → w[i]? = some z → q.Sublist z ∧ q ≠ []
theorem BoxIn.self {w : Box} (h : ∀ z ∈ w, z ≠ []) : BoxIn w w := ⟨rfl, fun i q z h1 h2 => by
  rw [h1] at h2
  cases h2
  exact ⟨List.Sublist.refl _, h q (List.mem_of_getElem? h1)⟩⟩
theorem law_drawn_box_e {l : List D} {w : Box} (h : DSl l) (hne : ∀ z ∈ w, z ≠ []) (hl : w.length ≤ 1000) (hz : ∀ z ∈ w, z.length ≤ 1000) : ∃ (b : Box) (l' : List D), c__law_drawn_box [⟨.lst l, 1⟩, ⟨Box.d w, 0⟩] = .ok (⟨Box.d b, 0⟩, [⟨.lst l', 1⟩, ⟨Box.d w, 0⟩]) ∧ DSl l' ∧ BoxIn b w := by
  obtain ⟨⟨l', a3, a4⟩, b, e, h1, hp⟩ := for_app (it := ⟨w.map nD, none⟩) (g := gN 3) (body := b__law_drawn_box_3) (L := [0]) (ds := w) (s := (l, none, none)) (acc := []) nD
    (fun (s : List D × Option Cell × Option Cell) (acc : Box) => [some ⟨.lst s.1, 1⟩, some ⟨Box.d w, 0⟩, some ⟨.lst (acc.map nD), 1⟩, s.2.1, s.2.2, none]) (fun s => DSl s.1) (fun z q => q.Sublist z ∧ q ≠ []) h (by simp; omega) (fun z hzw s acc hs hl2 => by
      have hz1 := hz z hzw
      have hz0 := hne z hzw
      obtain ⟨l1, out, e1, h1, q, hq, hsub⟩ := comp_rel (it := ⟨nL z, none⟩) (g := gN 5) (tt := t__law_drawn_box_1) (me := e__law_drawn_box_2) (vs := [5]) (ds := z) (s := s.1) (acc := []) (fun (i : Nat) => D.int (i : Int))
        (fun l => [some ⟨.lst l, 1⟩, some ⟨Box.d w, 0⟩, some ⟨.lst (acc.map nD), 1⟩, some ⟨nD z, 0⟩, s.2.2, none]) (fun r l acc => DSl l ∧ ∃ q : List Nat, acc = nL q ∧ ∃ done, z = done ++ r ∧ q.Sublist done) ⟨hs, [], rfl, [], rfl, List.Sublist.refl _⟩ (fun a r l acc2 ⟨h1, q, hq, done, hd, hsub⟩ => by
          obtain ⟨n, l2, e, h2, h3⟩ := draw_e (m := 3) h1 (by decide) (by decide)
          by_cases hn : 0 < n
          · refine ⟨l2, some (.int (a : Int)), ?_, h2, q ++ [a], by simp [hq, nL], done ++ [a], by simp [hd], hsub.append (List.Sublist.refl _)⟩
            have hn' : (0 : Int) < n := by omega
            simp -implicitDefEqProofs [comp1, t__law_drawn_box_1, e__law_drawn_box_2, e, hn]
          · refine ⟨l2, none, ?_, h2, q, by simp [hq], done ++ [a], by simp [hd], ?_⟩
            · have hn' : n = 0 := by omega
              subst hn'
              simp -implicitDefEqProofs [comp1, t__law_drawn_box_1, e__law_drawn_box_2, e]
            · simpa using hsub.append (List.nil_sublist [a]))
      obtain ⟨done, hd, hsub⟩ := hsub
      rw [List.append_nil] at hd
      subst hd
      rw [List.nil_append] at hq
      subst hq
      have e0 : z.map (fun (i : Nat) => D.int (i : Int)) = nL z := rfl
      rw [e0] at e1
      have hla : (acc.map nD).length ≤ 10000 := by simpa using hl2
      have et : ∀ q : List Nat, D.tup (nL q) = nD q := fun _ => rfl
      by_cases hq0 : q = []
      · subst hq0
        have hpk := pickT_s (l := l1) (row := nL z) h1 (by rw [nL_len]; exact List.length_pos_iff.mpr hz0) (by rw [nL_len]; omega)
        have hn := dN_ltN (l := l1) (m := z.length) h1 (List.length_pos_iff.mpr hz0) (by omega)
        rw [nL_len] at hpk
        have hg : (nL z).getD (dN l1 (z.length : Nat)) .non = .int (z.getD (dN l1 (z.length : Nat)) 0 : Nat) := by simp [nL, List.getElem?_eq_getElem hn]
        have hmem : z.getD (dN l1 (z.length : Nat)) 0 ∈ z := by simp [List.getElem?_eq_getElem hn]
        rw [hg, et] at hpk
        refine ⟨(dL l1 (z.length : Nat), some ⟨nD z, 0⟩, some ⟨nD [z.getD (dN l1 (z.length : Nat)) 0], 0⟩), [z.getD (dN l1 (z.length : Nat)) 0], ?_, h1.d, List.singleton_sublist.mpr hmem, by simp⟩
        have ez : D.tup [.int (z.getD (dN l1 (z.length : Nat)) 0 : Nat)] = nD [z.getD (dN l1 (z.length : Nat)) 0] := rfl
        have en : nD [] = .tup (nL []) := rfl
        simp (maxSteps := 1000000) -implicitDefEqProofs [-List.getD_eq_getElem?_getD, step1, b__law_drawn_box_3, e1, show z.length ≤ 16777216 by omega, hpk, ez, f_app hla]
      · have hq1 : q.length ≠ 0 := fun z => hq0 (List.length_eq_zero_iff.mp z)
        refine ⟨(l1, some ⟨nD z, 0⟩, some ⟨nD q, 0⟩), q, ?_, h1, hsub, hq0⟩
        simp (maxSteps := 1000000) -implicitDefEqProofs [step1, b__law_drawn_box_3, e1, show z.length ≤ 16777216 by omega, et, hq0, f_app hla])
  simp only [List.nil_append] at e
  have e0 : ([] : Box).map nD = [] := rfl
  rw [e0] at e
  refine ⟨b, l', ?_, h1, (pr_len hp).symm, fun i q z h2 h3 => pr_get hp h3 h2⟩
  have eb : Box.d w = .tup (w.map nD) := rfl
  have eb2 : D.tup (b.map nD) = Box.d b := rfl
  have ei : itemsOf (Box.d w) = some (w.map nD) := rfl
  simp -implicitDefEqProofs [c__law_drawn_box, m__law_drawn_box, ei, e, eb2]
end S

/-! S: wide houses. -/
namespace S
open Z PySem PySem.Spec PyProof.Rows L2
theorem rowsN_perm {a b : List Nat} (h : a.Perm b) : rowsN a = rowsN b := by
  induction h with
  | nil => rfl
  | cons x _ ih => simp only [rowsN, List.foldr_cons] at ih ⊢; rw [ih]
  | swap x y l => simp only [rowsN, List.foldr_cons]; rw [Nat.mul_left_comm]
  | trans _ _ ih1 ih2 => exact ih1.trans ih2
theorem perm_nL {x : List D} {b : List Nat} (h : x.Perm (nL b)) : ∃ a, x = nL a ∧ a.Perm b := by
  generalize hy : nL b = y at h
  induction h generalizing b with
  | nil => exact ⟨[], rfl, by
      cases b with
      | nil => exact List.Perm.refl _
      | cons _ _ => cases hy⟩
  | cons x _ ih =>
    cases b with
    | nil => cases hy
    | cons c r =>
      cases hy
      obtain ⟨a, e, hp⟩ := ih rfl
      exact ⟨c :: a, by rw [e]; rfl, hp.cons c⟩
  | swap x y l =>
    cases b with
    | nil => cases hy
    | cons c r =>
      cases r with
      | nil => cases hy
      | cons c2 r =>
        cases hy
        exact ⟨c2 :: c :: r, rfl, List.Perm.swap _ _ _⟩
  | trans _ _ ih1 ih2 =>
    obtain ⟨a, e, hp⟩ := ih2 hy
    obtain ⟨a2, e2, hp2⟩ := ih1 e.symm
    exact ⟨a2, e2, hp2.trans hp⟩
theorem law_wide_sizes_e {l : List D} (h : DSl l) : ∃ (s : List Nat) (l' : List D), c__law_wide_sizes [⟨.lst l, 1⟩] = .ok (⟨nD s, 0⟩, [⟨.lst l', 1⟩]) ∧ DSl l' ∧ SizesOk s := by
  obtain ⟨n, l1, e1, h1, hn⟩ := draw_e (m := 4) h (by decide) (by decide)
  have hr := rg_one n (by omega)
  obtain ⟨s', e, g1, g2, g3, g4⟩ := for_rel (it := ⟨rgI (1 + n), none⟩) (g := gN 3) (body := b__law_wide_sizes_1) (L := [0]) (ds := List.range (1 + n)) (s := (l1, [], none, none)) (fun (i : Nat) => D.int (i : Int))
    (fun s : List D × List Nat × Option Cell × Option Cell => [some ⟨.lst s.1, 1⟩, some ⟨.lst (nL s.2.1), 1⟩, iC (rowsN s.2.1), s.2.2.1, s.2.2.2])
    (fun r s => DSl s.1 ∧ s.2.1.length + r.length = 1 + n ∧ (∀ x ∈ s.2.1, 1 ≤ x ∧ x ≤ 8) ∧ 1 ≤ rowsN s.2.1 ∧ rowsN s.2.1 ≤ 256) ⟨h1, by simp, by simp, by show 1 ≤ rowsN []; decide, by show rowsN [] ≤ 256; decide⟩ (fun a r s ⟨g1, g2, g3, g4, g5⟩ => by
      rw [List.length_cons] at g2
      have hd : (1 : Int) ≤ (256 : Int) / (rowsN s.2.1 : Int) := by
        rw [Int.le_ediv_iff_mul_le (by omega)]
        omega
      have hmin : ∃ m : Nat, (if (256 : Int) / (rowsN s.2.1 : Int) < 8 then (256 : Int) / (rowsN s.2.1 : Int) else 8) = (m : Int) ∧ 1 ≤ m ∧ m ≤ 8 ∧ (m : Int) ≤ (256 : Int) / (rowsN s.2.1 : Int) := by
        refine ⟨(if (256 : Int) / (rowsN s.2.1 : Int) < 8 then (256 : Int) / (rowsN s.2.1 : Int) else 8).toNat, ?_, ?_, ?_, ?_⟩ <;> split <;> omega
      obtain ⟨m, hm, hm1, hm8, hm2⟩ := hmin
      obtain ⟨q, l2, e2, h2, hq⟩ := drawN_e (m := m) g1 (by omega) (by omega)
      have hle : rowsN s.2.1 * (1 + q) ≤ 256 := by
        have h3 : ((1 + q : Nat) : Int) ≤ (256 : Int) / (rowsN s.2.1 : Int) := by omega
        rw [Int.le_ediv_iff_mul_le (by omega)] at h3
        have h4 : (1 + q) * rowsN s.2.1 ≤ 256 := by exact_mod_cast h3
        rw [Nat.mul_comm]
        exact h4
      have hrow : rowsN (s.2.1 ++ [1 + q]) = rowsN s.2.1 * (1 + q) := by
        rw [rowsN_perm (List.perm_append_comm (l₁ := s.2.1) (l₂ := [1 + q]))]
        simp [rowsN, Nat.mul_comm]
      refine ⟨(l2, s.2.1 ++ [1 + q], iC a, iC (1 + q)), ?_, h2, by simp only [List.length_append, List.length_singleton]; omega, fun x hx => ?_, ?_, ?_⟩
      · have hdv := p_div (i := 256) (j := (rowsN s.2.1 : Int)) (k := 0) (k' := 0) ⟨by omega, by omega⟩
        have hmul := p_mulR (i := (rowsN s.2.1 : Int)) (j := 1 + (q : Int)) (k := 0) (k' := 0) ⟨by omega, by omega⟩
        have ec : (rowsN s.2.1 : Int) * (1 + (q : Int)) = ((rowsN (s.2.1 ++ [1 + q]) : Nat) : Int) := by rw [hrow]; push_cast; rfl
        rw [ec] at hmul
        have en : nL s.2.1 ++ [D.int (1 + (q : Int))] = nL (s.2.1 ++ [1 + q]) := by simp [nL]
        have hlen : (nL s.2.1).length ≤ 10000 := by simp; omega
        simp (maxSteps := 1000000) -implicitDefEqProofs [step1, b__law_wide_sizes_1, hdv, hm, e2, hmul, f_app hlen, en]
      · rw [List.mem_append, List.mem_singleton] at hx
        rcases hx with hx | rfl
        · exact g3 x hx
        · omega
      · show 1 ≤ rowsN (s.2.1 ++ [1 + q])
        rw [hrow]; exact Nat.mul_pos g4 (by omega)
      · show rowsN (s.2.1 ++ [1 + q]) ≤ 256
        rw [hrow]; exact hle)
  simp only [List.length_nil, Nat.add_zero] at g2
  obtain ⟨row', l3, e3, h3, hp⟩ := shuffled_s (l := s'.1) (row := nL s'.2.1) (k := 1) g1 (by decide) (by simp; omega)
  obtain ⟨s, rfl, hp2⟩ := perm_nL hp
  refine ⟨s, l3, ?_, h3, ⟨by rw [hp2.length_eq]; omega, by rw [hp2.length_eq]; omega, fun x hx => g3 x (hp2.mem_iff.mp hx), by rw [rowsN_perm hp2]; exact g4.2⟩⟩
  have e0 : nL [] = [] := rfl
  have e00 : rowsN [] = 1 := rfl
  dsimp only at e
  rw [e0, e00] at e
  have et : ∀ q : List Nat, D.tup (nL q) = nD q := fun _ => rfl
  have e1' : iC 1 = some ⟨.int 1, 0⟩ := rfl
  rw [e1'] at e
  simp (maxSteps := 1000000) -implicitDefEqProofs [c__law_wide_sizes, m__law_wide_sizes, e1, hr.1, hr.2, e, e3, et]
theorem law_wide_watches_e {l : List D} {p m : Nat} (h : DSl l) (hm : m ≤ 100) : ∃ (w : List Nat) (l' : List D), c__law_wide_watches [⟨.lst l, 1⟩, ⟨.int (p : Int), 0⟩, ⟨.int (m : Int), 0⟩] = .ok (⟨nD w, 0⟩, [⟨.lst l', 1⟩, ⟨.int (p : Int), 0⟩, ⟨.int (m : Int), 0⟩]) ∧ DSl l' ∧
    w.Pairwise (· < ·) ∧ ∀ o ∈ w, o < m ∧ o ≠ p := by
  obtain ⟨n, l1, e1, h1, hn⟩ := draw_e (m := 3) h (by decide) (by decide)
  have e2 := comp_f (it := ⟨rgI m, none⟩) (g := gN 5) (tt := t__law_wide_watches_1) (me := e__law_wide_watches_2) (vs := [5]) (ρ := [some ⟨.lst l1, 1⟩, iC p, iC m, iC n, none, none]) (fun (i : Nat) => D.int (i : Int)) (fun i => decide (i ≠ p)) (fun i => .int (i : Int)) (ds := List.range m) (fun a ha => by
    by_cases hap : a = p
    · subst hap
      simp -implicitDefEqProofs [comp1, t__law_wide_watches_1]
    · have hap' : ¬ (a : Int) = (p : Int) := by omega
      simp -implicitDefEqProofs [comp1, t__law_wide_watches_1, e__law_wide_watches_2, hap, hap'])
  generalize hO : (List.range m).filter (fun i => decide (i ≠ p)) = O at e2
  have hOp : O.Pairwise (· < ·) ∧ ∀ o ∈ O, o < m ∧ o ≠ p := by
    rw [← hO]
    refine ⟨List.Pairwise.filter _ List.pairwise_lt_range, fun o ho => ?_⟩
    rw [List.mem_filter, List.mem_range, decide_eq_true_eq] at ho
    exact ho
  have hOl : O.length ≤ 100 := by
    rw [← hO]
    have := List.length_filter_le (fun i => decide (i ≠ p)) (List.range m)
    rw [List.length_range] at this
    omega
  have en : O.map (fun (i : Nat) => D.int (i : Int)) = nL O := rfl
  rw [en] at e2
  have et : ∀ q : List Nat, D.tup (nL q) = nD q := fun _ => rfl
  by_cases hn1 : n = 1
  · refine ⟨O, l1, ?_, h1, hOp.1, hOp.2⟩
    have hn1' : ((n : Int) = 1) = True := eq_true (by omega)
    simp (maxSteps := 1000000) -implicitDefEqProofs [c__law_wide_watches, m__law_wide_watches, e1, rgB_nat (show m ≤ 16777216 by omega), rgD_nat', show m ≤ 16777216 by omega, e2, hn1', et]
  · have hn1' : ¬ (n : Int) = 1 := by omega
    obtain ⟨l2, out, e3, hI1, q, hq, done, hd, hsub⟩ := comp_rel (it := ⟨nL O, some 4⟩) (g := gN 5) (tt := t__law_wide_watches_3) (me := e__law_wide_watches_4) (vs := [5]) (ds := O) (s := l1) (acc := []) (fun (i : Nat) => D.int (i : Int))
      (fun l => [some ⟨.lst l, 1⟩, iC p, iC m, iC n, some ⟨.lst (nL O), 1⟩, none]) (fun r l acc => DSl l ∧ ∃ q : List Nat, acc = nL q ∧ ∃ done, O = done ++ r ∧ q.Sublist done) ⟨h1, [], rfl, [], rfl, List.Sublist.refl _⟩ (fun a r l acc2 ⟨h1, q, hq, done, hd, hsub⟩ => by
        have skip : ∀ l2, comp1 ⟨nL O, some 4⟩ (gN 5) t__law_wide_watches_3 e__law_wide_watches_4 [5] (.int (a : Int)) [some ⟨.lst l, 1⟩, iC p, iC m, iC n, some ⟨.lst (nL O), 1⟩, none] = .ok (none, [some ⟨.lst l2, 1⟩, iC p, iC m, iC n, some ⟨.lst (nL O), 1⟩, none]) → DSl l2 → ∃ s' o, comp1 ⟨nL O, some 4⟩ (gN 5) t__law_wide_watches_3 e__law_wide_watches_4 [5] (.int (a : Int)) [some ⟨.lst l, 1⟩, iC p, iC m, iC n, some ⟨.lst (nL O), 1⟩, none] = .ok (o, [some ⟨.lst s', 1⟩, iC p, iC m, iC n, some ⟨.lst (nL O), 1⟩, none]) ∧ DSl s' ∧ ∃ q : List Nat, acc2 ++ o.toList = nL q ∧ ∃ done, O = done ++ r ∧ q.Sublist done := fun l2 e h2 =>
          ⟨l2, none, e, h2, q, by simp [hq], done ++ [a], by simp [hd], by simpa using hsub.append (List.nil_sublist [a])⟩
        by_cases hn2 : n = 2
        · obtain ⟨n3, l3, e3, h3, hn3⟩ := draw_e (m := 2) h1 (by decide) (by decide)
          subst hn2
          by_cases h31 : n3 = 1
          · subst h31
            refine ⟨l3, some (.int (a : Int)), ?_, h3, q ++ [a], by simp [hq, nL], done ++ [a], by simp [hd], hsub.append (List.Sublist.refl _)⟩
            simp -implicitDefEqProofs [comp1, t__law_wide_watches_3, e__law_wide_watches_4, e3]
          · have h31' : ¬ (n3 : Int) = 1 := by omega
            refine skip l3 ?_ h3
            simp -implicitDefEqProofs [comp1, t__law_wide_watches_3, e__law_wide_watches_4, e3, h31']
        · have hn2' : ¬ (n : Int) = 2 := by omega
          refine skip l ?_ h1
          simp -implicitDefEqProofs [comp1, t__law_wide_watches_3, e__law_wide_watches_4, hn2'])
    rw [List.append_nil] at hd
    subst hd
    rw [List.nil_append] at hq
    subst hq
    refine ⟨q, l2, ?_, hI1, hOp.1.sublist hsub, fun o ho => hOp.2 o (hsub.subset ho)⟩
    have en2 : O.map (fun (i : Nat) => D.int (i : Int)) = nL O := rfl
    rw [en2] at e3
    simp (maxSteps := 1000000) -implicitDefEqProofs [c__law_wide_watches, m__law_wide_watches, e1, rgB_nat (show m ≤ 16777216 by omega), rgD_nat', show m ≤ 16777216 by omega, e2, hn1', show O.length ≤ 16777216 by omega, e3, et]
end S

/-! S: wide houses as a whole. -/
namespace S
open Z PySem PySem.Spec PyProof.Rows L2
section
variable {l : List D} {sizes : List Nat} {out np : Nat} {sc : Int} {c1 c2 c3 c4 c5 c6 c7 c8 c9 c10 c11 c12 c13 c14 c15 c16 c17 c18 : Option Cell}
abbrev zC (n : Int) : Option Cell := some ⟨.int n, 0⟩
theorem wide_num (h : DSl l) (h1 : 1 ≤ sc) (h2 : sc ≤ 1000000) : ∃ (n : Nat) (l' : List D) (i : Int), c_draw [⟨.lst l, 1⟩, ⟨.int 2000001, 0⟩] = .ok (⟨.int (n : Int), 0⟩, [⟨.lst l', 1⟩, ⟨.int 2000001, 0⟩]) ∧ DSl l' ∧ Bd i ∧ fMul [⟨.int ((n : Int) - 1000000), 0⟩, ⟨.int sc, 0⟩] = .ok ⟨.int i, 0⟩ := by
  obtain ⟨n, l', e, g, hn⟩ := draw_e (m := 2000001) h (by decide) (by decide)
  refine ⟨n, l', ((n : Int) - 1000000) * sc, e, g, ?_, p_mulR ⟨by omega, by omega⟩⟩
  unfold Bd
  have a1 : -1000000 ≤ (n : Int) - 1000000 := by omega
  have a2 : (n : Int) - 1000000 ≤ 1000000 := by omega
  constructor
  · have := Int.mul_le_mul_of_nonneg_right a1 (show (0 : Int) ≤ sc by omega)
    omega
  · have := Int.mul_le_mul_of_nonneg_right a2 (show (0 : Int) ≤ sc by omega)
    omega
theorem wide_row (h : DSl l) (h1 : 1 ≤ sc) (h2 : sc ≤ 1000000) {n : Nat} :
    ∃ (l' : List D) (ns : List Int), loopC ⟨rgI n, none⟩ (gN 13) mYes e__law_wide_house_2 [13] (rgI n) [some ⟨.lst l, 1⟩, c1, c2, c3, zC sc, c5, c6, c7, c8, c9, c10, c11, c12, none, c14, c15, c16, c17, c18] =
      .ok (ns.map D.int, [some ⟨.lst l', 1⟩, c1, c2, c3, zC sc, c5, c6, c7, c8, c9, c10, c11, c12, none, c14, c15, c16, c17, c18]) ∧ DSl l' ∧ ns.length = n ∧ ∀ i ∈ ns, Bd i := by
  obtain ⟨l', ns, e, g1, hp⟩ := comp_draw (it := ⟨rgI n, none⟩) (g := gN 13) (tt := mYes) (me := e__law_wide_house_2) (vs := [13]) (ds := List.range n) (s := l) (fun (i : Nat) => D.int (i : Int))
    (fun l => [some ⟨.lst l, 1⟩, c1, c2, c3, zC sc, c5, c6, c7, c8, c9, c10, c11, c12, none, c14, c15, c16, c17, c18]) D.int DSl (fun _ i => Bd i) h (fun a _ l hl => by
      obtain ⟨n, l', i, e, g, gi, em⟩ := wide_num hl h1 h2
      exact ⟨l', i, by simp -implicitDefEqProofs [comp1, e__law_wide_house_2, e, em], g, gi⟩)
  exact ⟨l', ns, e, g1, by rw [← pr_len hp, List.length_range], pr_all hp fun _ _ z => z⟩
theorem wide_worths (h : DSl l) (h1 : 1 ≤ sc) (h2 : sc ≤ 1000000) {n : Nat} (ho : out ≤ 10000) (hn : n ≤ 10000) :
    ∃ (l' : List D) (c12' : Option Cell) (ws : List (List Int)), loopF ⟨rgI n, none⟩ (gN 12) b__law_wide_house_3 [0] (rgI n) [some ⟨.lst l, 1⟩, c1, c2, iC out, zC sc, c5, c6, c7, c8, c9, c10, some ⟨.lst [], 1⟩, c12, none, c14, c15, c16, c17, c18] =
      .ok (.next, [some ⟨.lst l', 1⟩, c1, c2, iC out, zC sc, c5, c6, c7, c8, c9, c10, some ⟨.lst (ws.map iD), 1⟩, c12', none, c14, c15, c16, c17, c18]) ∧ DSl l' ∧ ws.length = n ∧ ∀ ns ∈ ws, ns.length = out ∧ ∀ i ∈ ns, Bd i := by
  obtain ⟨⟨l', c'⟩, ws, e, g1, hp⟩ := for_app (it := ⟨rgI n, none⟩) (g := gN 12) (body := b__law_wide_house_3) (L := [0]) (ds := List.range n) (s := (l, c12)) (acc := []) (fun (i : Nat) => D.int (i : Int))
    (fun (s : List D × Option Cell) (acc : List (List Int)) => [some ⟨.lst s.1, 1⟩, c1, c2, iC out, zC sc, c5, c6, c7, c8, c9, c10, some ⟨.lst (acc.map iD), 1⟩, s.2, none, c14, c15, c16, c17, c18]) (fun s => DSl s.1) (fun _ ns => ns.length = out ∧ ∀ i ∈ ns, Bd i) h (by simpa using hn) (fun a _ s acc hs hl => by
      obtain ⟨l2, ns, e, g1, g2, g3⟩ := wide_row (c1 := c1) (c2 := c2) (c3 := iC out) (c5 := c5) (c6 := c6) (c7 := c7) (c8 := c8) (c9 := c9) (c10 := c10) (c11 := some ⟨.lst (acc.map iD), 1⟩) (c12 := iC a) (c14 := c14) (c15 := c15) (c16 := c16) (c17 := c17) (c18 := c18) hs h1 h2 (n := out)
      refine ⟨(l2, iC a), ns, ?_, g1, g2, g3⟩
      have ei : D.tup (ns.map D.int) = iD ns := rfl
      simp (maxSteps := 1000000) -implicitDefEqProofs [step1, b__law_wide_house_3, rgB_nat (show out ≤ 16777216 by omega), rgD_nat', show out ≤ 16777216 by omega, e, f_app (show (acc.map iD).length ≤ 10000 by simpa using hl), ei])
  simp only [List.nil_append] at e
  exact ⟨l', c', ws, e, g1, by rw [← pr_len hp, List.length_range], pr_all hp fun _ _ z => z⟩
theorem wide_kinds (h : DSl l) (h1 : 1 ≤ sc) (h2 : sc ≤ 1000000) {n : Nat} (ho : out ≤ 10000) {ws : List Str} (hws : n ≤ ws.length) (hw1 : ws.length ≤ 1000) (h7 : fz0 c6) :
    ∃ (l' : List D) (c6' c11' c12' : Option Cell) (ws' : List Str) (ks : List Kind), loopF ⟨rgI n, none⟩ (gN 6) b__law_wide_house_4 [0] (rgI n) [some ⟨.lst l, 1⟩, c1, c2, iC out, zC sc, c5, c6, c7, c8, some ⟨.lst (ws.map D.str), 1⟩, some ⟨.lst [], 1⟩, c11, c12, none, c14, c15, c16, c17, c18] =
      .ok (.next, [some ⟨.lst l', 1⟩, c1, c2, iC out, zC sc, c5, c6', c7, c8, some ⟨.lst (ws'.map D.str), 1⟩, some ⟨.lst (ks.map Kind.d), 1⟩, c11', c12', none, c14, c15, c16, c17, c18]) ∧ DSl l' ∧ fz0 c6' ∧ ks.length = n ∧ ∀ k ∈ ks, KindOk out k := by
  obtain ⟨⟨l', a7, a12, a13, ws'⟩, ks, e, ⟨g1, _, _, g7⟩, hp⟩ := for_app2 (it := ⟨rgI n, none⟩) (g := gN 6) (body := b__law_wide_house_4) (L := [0]) (ds := List.range n) (s := (l, c6, c11, c12, ws)) (acc := []) (fun (i : Nat) => D.int (i : Int))
    (fun (s : List D × Option Cell × Option Cell × Option Cell × List Str) (acc : List Kind) => [some ⟨.lst s.1, 1⟩, c1, c2, iC out, zC sc, c5, s.2.1, c7, c8, some ⟨.lst (s.2.2.2.2.map D.str), 1⟩, some ⟨.lst (acc.map Kind.d), 1⟩, s.2.2.1, s.2.2.2.1, none, c14, c15, c16, c17, c18])
    (fun r s => DSl s.1 ∧ r.length ≤ s.2.2.2.2.length ∧ s.2.2.2.2.length ≤ 1000 ∧ fz0 s.2.1) (fun _ k => KindOk out k) ⟨h, by simpa using hws, hw1, h7⟩ (by simp; omega) (fun a r s acc ⟨hs, hs2, hs3, _⟩ hl => by
      rw [List.length_cons] at hs2
      obtain ⟨n, l1, e1, g1, hn⟩ := draw_e (m := 3) hs (by omega) (by omega)
      have hr1 := rg_one n (by omega)
      obtain ⟨l2, a13, rs, e2, g2, g3, g4⟩ := wide_worths (c1 := c1) (c2 := c2) (c5 := c5) (c6 := iC a) (c7 := c7) (c8 := c8) (c9 := some ⟨.lst (s.2.2.2.2.map D.str), 1⟩) (c10 := some ⟨.lst (acc.map Kind.d), 1⟩) (c12 := s.2.2.2.1) (c14 := c14) (c15 := c15) (c16 := c16) (c17 := c17) (c18 := c18) g1 h1 h2 (n := 1 + n) ho (by omega)
      obtain ⟨x, ws2, l3, e3, g5, g6⟩ := law_pop_many (ns := s.2.2.2.2) g2 (by omega) hs3
      refine ⟨(l3, iC a, some ⟨.lst (rs.map iD), 1⟩, a13, ws2), ⟨x, rs⟩, ?_, ⟨g5, by simp only; omega, by simp only; omega, fz0_some⟩, ⟨by simp only; omega, by simp only; omega, g4⟩⟩
      simp (maxSteps := 1000000) -implicitDefEqProofs [step1, b__law_wide_house_4, e1, hr1.1, hr1.2, e2, e3, f_app (show (acc.map Kind.d).length ≤ 10000 by simpa using hl), Kind.d])
  simp only [List.nil_append] at e
  exact ⟨l', a7, a12, a13, ws', ks, e, g1, g7, by rw [← pr_len hp, List.length_range], pr_all hp fun _ _ z => z⟩
theorem wide_persons (h : DSl l) (h1 : 1 ≤ sc) (h2 : sc ≤ 1000000) (hs : SizesOk sizes) (ho : out ≤ 10000) {ns : List Str} (hns : sizes.length ≤ ns.length) (hn1 : ns.length ≤ 1000) (h7 : fz0 c6) :
    ∃ (l' : List D) (c6' c8' c9' c10' c11' c12' : Option Cell) (ns' : List Str) (ps : List Prsn), loopF ⟨rgI sizes.length, none⟩ (gN 8) b__law_wide_house_5 [0] (rgI sizes.length) [some ⟨.lst l, 1⟩, some ⟨nD sizes, 0⟩, some ⟨.lst (ns.map D.str), 1⟩, iC out, zC sc, c5, c6, some ⟨.lst [], 1⟩, c8, c9, c10, c11, c12, none, c14, c15, c16, c17, c18] =
      .ok (.next, [some ⟨.lst l', 1⟩, some ⟨nD sizes, 0⟩, some ⟨.lst (ns'.map D.str), 1⟩, iC out, zC sc, c5, c6', some ⟨.lst (ps.map Prsn.d), 1⟩, c8', c9', c10', c11', c12', none, c14, c15, c16, c17, c18]) ∧ DSl l' ∧ fz0 c6' ∧ ps.length = sizes.length ∧
      ∀ (p : Nat) (q : Prsn), ps[p]? = some q → PrsnOk sizes.length out p (sizes.getD p 0) q := by
  have h4 := hs.n4
  obtain ⟨⟨l', ns', a7, a9, a10, a11, a12, a13⟩, ps, e, ⟨g1, _, _, _, g7⟩, hp⟩ := for_app2 (it := ⟨rgI sizes.length, none⟩) (g := gN 8) (body := b__law_wide_house_5) (L := [0]) (ds := List.range sizes.length) (s := (l, ns, c6, c8, c9, c10, c11, c12)) (acc := []) (fun (i : Nat) => D.int (i : Int))
    (fun (s : List D × List Str × Option Cell × Option Cell × Option Cell × Option Cell × Option Cell × Option Cell) (acc : List Prsn) => [some ⟨.lst s.1, 1⟩, some ⟨nD sizes, 0⟩, some ⟨.lst (s.2.1.map D.str), 1⟩, iC out, zC sc, c5, s.2.2.1, some ⟨.lst (acc.map Prsn.d), 1⟩, s.2.2.2.1, s.2.2.2.2.1, s.2.2.2.2.2.1, s.2.2.2.2.2.2.1, s.2.2.2.2.2.2.2, none, c14, c15, c16, c17, c18])
    (fun r s => DSl s.1 ∧ r.length ≤ s.2.1.length ∧ s.2.1.length ≤ 1000 ∧ (∀ p ∈ r, p < sizes.length) ∧ fz0 s.2.2.1) (fun p q => PrsnOk sizes.length out p (sizes.getD p 0) q) ⟨h, by simpa using hns, hn1, by simp, h7⟩ (by simp; omega) (fun a r s acc ⟨hs1, hs2, hs3, hs4, hs7⟩ hl => by
      rw [List.length_cons] at hs2
      have ha := hs4 a (List.mem_cons_self ..)
      have hsz := hs.s (sizes.getD a 0) (by simp [List.getElem?_eq_getElem ha])
      have hpl := pool_len
      obtain ⟨l1, a7, a12, a13, ws', ks, e1, g1, g7, g2, g3⟩ := wide_kinds (c1 := some ⟨nD sizes, 0⟩) (c2 := some ⟨.lst (s.2.1.map D.str), 1⟩) (c5 := c5) (c6 := s.2.2.1) (c7 := some ⟨.lst (acc.map Prsn.d), 1⟩) (c8 := iC a) (c11 := s.2.2.2.2.2.2.1) (c12 := s.2.2.2.2.2.2.2) (c14 := c14) (c15 := c15) (c16 := c16) (c17 := c17) (c18 := c18) hs1 h1 h2 (n := sizes.getD a 0) ho (ws := pool) (by omega) (by omega) hs7
      obtain ⟨x, ns2, l2, e2, g5, g6⟩ := law_pop_many (ns := s.2.1) g1 (by omega) hs3
      obtain ⟨w, l3, e3, g7b, g8, g9⟩ := law_wide_watches_e (p := a) (m := sizes.length) g5 (by omega)
      refine ⟨(l3, ns2, a7, iC a, some ⟨.lst (ws'.map D.str), 1⟩, some ⟨.lst (ks.map Kind.d), 1⟩, a12, a13), ⟨x, ks, w⟩, ?_, ⟨g7b, by simp only; omega, by simp only; omega, fun p hp => hs4 p (List.mem_cons_of_mem _ hp), g7⟩, ⟨g2, g3, g8, g9⟩⟩
      have ex : fIx [⟨nD sizes, 0⟩, ⟨.int (a : Int), 0⟩] = .ok ⟨.int (sizes.getD a 0 : Nat), 0⟩ := ixT (map_some ha)
      simp (maxSteps := 1000000) -implicitDefEqProofs [-List.getD_eq_getElem?_getD, step1, b__law_wide_house_5, law_pool_ok, ex, rgB_nat (show sizes.getD a 0 ≤ 16777216 by omega), rgD_nat', e1, e2, e3, f_app (show (acc.map Prsn.d).length ≤ 10000 by simpa using hl), Prsn.d])
  simp only [List.nil_append] at e
  exact ⟨l', a7, a9, a10, a11, a12, a13, ns', ps, e, g1, g7, by rw [← pr_len hp, List.length_range], fun p q e => pr_range hp e⟩
theorem wide_told (h : DSl l) {n : Nat} {ns : List Str} (hn : n ≤ ns.length) (hn1 : ns.length ≤ 1000) :
    ∃ (l' : List D) (ns' ts : List Str), loopC ⟨rgI n, none⟩ (gN 6) mYes e__law_wide_house_1 [6] (rgI n) [some ⟨.lst l, 1⟩, c1, some ⟨.lst (ns.map D.str), 1⟩, c3, c4, c5, none, c7, c8, c9, c10, c11, c12, c13, c14, c15, c16, c17, c18] =
      .ok (ts.map D.str, [some ⟨.lst l', 1⟩, c1, some ⟨.lst (ns'.map D.str), 1⟩, c3, c4, c5, none, c7, c8, c9, c10, c11, c12, c13, c14, c15, c16, c17, c18]) ∧ DSl l' ∧ ts.length = n ∧ ns'.length + n = ns.length := by
  obtain ⟨⟨l', ns'⟩, out, e, h1, ts, rfl, h2, h3⟩ := comp_rel (it := ⟨rgI n, none⟩) (g := gN 6) (tt := mYes) (me := e__law_wide_house_1) (vs := [6]) (ds := List.range n) (s := (l, ns)) (acc := []) (fun (i : Nat) => D.int (i : Int))
    (fun s : List D × List Str => [some ⟨.lst s.1, 1⟩, c1, some ⟨.lst (s.2.map D.str), 1⟩, c3, c4, c5, none, c7, c8, c9, c10, c11, c12, c13, c14, c15, c16, c17, c18]) (fun r s acc => DSl s.1 ∧ ∃ ts : List Str, acc = ts.map D.str ∧ ts.length + r.length = n ∧ s.2.length + ts.length = ns.length) ⟨h, [], rfl, by simp, by simp⟩ (fun a r s acc ⟨h1, ts, hacc, h2, h3⟩ => by
      rw [List.length_cons] at h2
      obtain ⟨x, ns2, l2, e, h4, h5⟩ := law_pop_many (ns := s.2) h1 (by omega) (by omega)
      refine ⟨(l2, ns2), some (.str x), ?_, h4, ts ++ [x], by simp [hacc], by simp; omega, by simp; omega⟩
      simp -implicitDefEqProofs [comp1, e__law_wide_house_1, e])
  simp only [List.nil_append] at e h1 h2 h3 ⊢
  exact ⟨l', ns', ts, e, h1, by simpa using h2, by simp at h2; omega⟩
theorem wide_paid (h : DSl l) (h1 : 1 ≤ sc) (h2 : sc ≤ 1000000) :
    ∃ (l' : List D) (ns : List Int), loopC ⟨nL sizes, none⟩ (gN 16) mYes e__law_wide_house_6 [16] (nL sizes) [some ⟨.lst l, 1⟩, c1, c2, c3, zC sc, c5, c6, c7, c8, c9, c10, c11, c12, c13, c14, c15, none, c17, c18] =
      .ok (ns.map D.int, [some ⟨.lst l', 1⟩, c1, c2, c3, zC sc, c5, c6, c7, c8, c9, c10, c11, c12, c13, c14, c15, none, c17, c18]) ∧ DSl l' ∧ ns.length = sizes.length ∧ ∀ i ∈ ns, Bd i := by
  obtain ⟨l', ns, e, g1, hp⟩ := comp_draw (it := ⟨nL sizes, none⟩) (g := gN 16) (tt := mYes) (me := e__law_wide_house_6) (vs := [16]) (ds := sizes) (s := l) (fun (i : Nat) => D.int (i : Int))
    (fun l => [some ⟨.lst l, 1⟩, c1, c2, c3, zC sc, c5, c6, c7, c8, c9, c10, c11, c12, c13, c14, c15, none, c17, c18]) D.int DSl (fun _ i => Bd i) h (fun a _ l hl => by
      obtain ⟨n, l', i, e, g, gi, em⟩ := wide_num hl h1 h2
      exact ⟨l', i, by simp -implicitDefEqProofs [comp1, e__law_wide_house_6, e, em], g, gi⟩)
  exact ⟨l', ns, e, g1, by rw [← pr_len hp], pr_all hp fun _ _ z => z⟩
theorem wide_menu (h : DSl l) (h1 : 1 ≤ sc) (h2 : sc ≤ 1000000) (ho : 1 ≤ out) (ho2 : out ≤ 1000) (hs : SizesOk sizes) {n : Nat} (hn : n ≤ 10) :
    ∃ (l' : List D) (c6' c15' : Option Cell) (es : List End), loopF ⟨rgI n, none⟩ (gN 6) b__law_wide_house_7 [0] (rgI n) [some ⟨.lst l, 1⟩, some ⟨nD sizes, 0⟩, c2, iC out, zC sc, c5, c6, c7, c8, c9, c10, c11, c12, c13, some ⟨.lst [], 1⟩, c15, none, c17, c18] =
      .ok (.next, [some ⟨.lst l', 1⟩, some ⟨nD sizes, 0⟩, c2, iC out, zC sc, c5, c6', c7, c8, c9, c10, c11, c12, c13, some ⟨.lst (es.map End.d), 1⟩, c15', none, c17, c18]) ∧ DSl l' ∧ es.length = n ∧ ∀ e ∈ es, EndOk sizes.length out e := by
  have h4 := hs.n4
  obtain ⟨⟨l', a6, a15⟩, es, e, g1, hp⟩ := for_app (it := ⟨rgI n, none⟩) (g := gN 6) (body := b__law_wide_house_7) (L := [0]) (ds := List.range n) (s := (l, c6, c15)) (acc := []) (fun (i : Nat) => D.int (i : Int))
    (fun (s : List D × Option Cell × Option Cell) (acc : List End) => [some ⟨.lst s.1, 1⟩, some ⟨nD sizes, 0⟩, c2, iC out, zC sc, c5, s.2.1, c7, c8, c9, c10, c11, c12, c13, some ⟨.lst (acc.map End.d), 1⟩, s.2.2, none, c17, c18]) (fun s => DSl s.1) (fun _ e => EndOk sizes.length out e) h (by simp; omega) (fun a _ s acc hs2 hl => by
      obtain ⟨l2, ns, e2, g2, g3, g4⟩ := wide_paid (sizes := sizes) (c1 := some ⟨nD sizes, 0⟩) (c2 := c2) (c3 := iC out) (c5 := c5) (c6 := iC a) (c7 := c7) (c8 := c8) (c9 := c9) (c10 := c10) (c11 := c11) (c12 := c12) (c13 := c13) (c14 := some ⟨.lst (acc.map End.d), 1⟩) (c15 := s.2.2) (c17 := c17) (c18 := c18) hs2 h1 h2
      obtain ⟨n, l3, e3, g5, g6⟩ := drawN_e (m := out) g2 (by omega) (by omega)
      refine ⟨(l3, iC a, some ⟨iD ns, 0⟩), ⟨n, ns⟩, ?_, g5, ⟨g6, g3, g4⟩⟩
      have ei : D.tup (ns.map D.int) = iD ns := rfl
      simp (maxSteps := 1000000) -implicitDefEqProofs [step1, b__law_wide_house_7, show sizes.length ≤ 16777216 by omega, e2, ei, e3, f_app (show (acc.map End.d).length ≤ 10000 by simpa using hl), End.d])
  simp only [List.nil_append] at e
  exact ⟨l', a6, a15, es, e, g1, by rw [← pr_len hp, List.length_range], pr_all hp fun _ _ z => z⟩
theorem wide_ends (h : DSl l) {menu : List End} (hm : 0 < menu.length) (hm2 : menu.length ≤ 100) {rows : List Row} :
    ∃ (l' : List D) (es : List End), loopC ⟨rows.map nD, none⟩ (gN 18) mYes e__law_wide_house_9 [18] (rows.map nD) [some ⟨.lst l, 1⟩, c1, c2, c3, c4, c5, c6, c7, c8, c9, c10, c11, c12, c13, some ⟨.lst (menu.map End.d), 1⟩, c15, c16, c17, none] =
      .ok (es.map End.d, [some ⟨.lst l', 1⟩, c1, c2, c3, c4, c5, c6, c7, c8, c9, c10, c11, c12, c13, some ⟨.lst (menu.map End.d), 1⟩, c15, c16, c17, none]) ∧ DSl l' ∧ es.length = rows.length ∧ ∀ e ∈ es, e ∈ menu := by
  obtain ⟨l', es, e, g1, hp⟩ := comp_draw (it := ⟨rows.map nD, none⟩) (g := gN 18) (tt := mYes) (me := e__law_wide_house_9) (vs := [18]) (ds := rows) (s := l) nD
    (fun l => [some ⟨.lst l, 1⟩, c1, c2, c3, c4, c5, c6, c7, c8, c9, c10, c11, c12, c13, some ⟨.lst (menu.map End.d), 1⟩, c15, c16, c17, none]) End.d DSl (fun _ e => e ∈ menu) h (fun a _ l hl => by
      have hpk := pickL_s (l := l) (row := menu.map End.d) (k := 1) (by decide) hl (by simpa using hm) (by simp; omega)
      have hn := dN_ltN (l := l) (m := menu.length) hl hm (by omega)
      rw [List.length_map] at hpk
      have hg : (menu.map End.d).getD (dN l (menu.length : Nat)) .non = (menu.getD (dN l (menu.length : Nat)) default).d := by simp [List.getElem?_eq_getElem hn]
      rw [hg] at hpk
      exact ⟨_, _, by simp -implicitDefEqProofs [-List.getD_eq_getElem?_getD, comp1, e__law_wide_house_9, hpk]; exact ⟨rfl, rfl⟩, hl.d, by simp [List.getElem?_eq_getElem hn]⟩)
  exact ⟨l', es, e, g1, by rw [← pr_len hp], pr_all hp fun _ _ z => z⟩
theorem sizes_lists_w {c0 : Option Cell} (hs : SizesOk sizes) :
    loopC ⟨nL sizes, none⟩ (gN 16) mYes e__law_wide_house_8 [16] (nL sizes) [c0, c1, c2, c3, c4, c5, c6, c7, c8, c9, c10, c11, c12, c13, c14, c15, none, c17, c18] = .ok (sizes.map fun s => D.lst (rgI s), [c0, c1, c2, c3, c4, c5, c6, c7, c8, c9, c10, c11, c12, c13, c14, c15, none, c17, c18]) := by
  have h1 : ∀ s ∈ sizes, comp1 ⟨nL sizes, none⟩ (gN 16) mYes e__law_wide_house_8 [16] (D.int (s : Int)) [c0, c1, c2, c3, c4, c5, c6, c7, c8, c9, c10, c11, c12, c13, c14, c15, none, c17, c18] = .ok (some (D.lst (rgI s)), [c0, c1, c2, c3, c4, c5, c6, c7, c8, c9, c10, c11, c12, c13, c14, c15, none, c17, c18]) := fun s h => by
    have h8 := (hs.s s h).2
    have e1 : rgOkB 0 (s : Int) = true := rgOk_nat (by omega)
    simp -implicitDefEqProofs [comp1, e__law_wide_house_8, e1, rgD_nat']
  exact comp_m (it := ⟨nL sizes, none⟩) (fun (i : Nat) => D.int (i : Int)) (fun s => D.lst (rgI s)) (ds := sizes) h1
end
theorem pick_ints {l : List D} (h : DSl l) {is : List Int} (h0 : 0 < is.length) (h1 : is.length ≤ 1000) : ∃ (i : Int) (l' : List D), c_pick [⟨.lst l, 1⟩, ⟨.lst (is.map D.int), 1⟩] = .ok (⟨.int i, 0⟩, [⟨.lst l', 1⟩, ⟨.lst (is.map D.int), 1⟩]) ∧ DSl l' ∧ i ∈ is := by
  have hpk := pickL_s (l := l) (row := is.map D.int) (k := 1) (by decide) h (by simpa using h0) (by simp; omega)
  have hn := dN_ltN (l := l) (m := is.length) h h0 (by omega)
  rw [List.length_map] at hpk
  have hg : (is.map D.int).getD (dN l (is.length : Nat)) .non = .int (is.getD (dN l (is.length : Nat)) 0) := by simp [List.getElem?_eq_getElem hn]
  rw [hg] at hpk
  exact ⟨_, _, hpk, h.d, by simp [List.getElem?_eq_getElem hn]⟩
theorem law_wide_house_e {l : List D} {sizes : List Nat} (h : DSl l) (hs : SizesOk sizes) : ∃ (H : House) (l' : List D), c__law_wide_house [⟨.lst l, 1⟩, ⟨nD sizes, 0⟩] = .ok (⟨H.d, 0⟩, [⟨.lst l', 1⟩, ⟨nD sizes, 0⟩]) ∧ DSl l' ∧ HouseOk H sizes := by
  have h4 := hs.n4
  have hpl := pool_len
  obtain ⟨o, l1, e1, g1, ho⟩ := draw_e (m := 24) h (by decide) (by decide)
  obtain ⟨sc, l2, e2, g2, hsc⟩ := pick_ints g1 (is := [1, 1000000, 1000, 1]) (by decide) (by decide)
  have hsc1 : 1 ≤ sc ∧ sc ≤ 1000000 := by
    simp only [List.mem_cons, List.not_mem_nil, or_false] at hsc
    omega
  have hro := rg_one o (by omega)
  obtain ⟨l3, ns3, ts, e3, g3, ht, hns⟩ := wide_told (c1 := some ⟨nD sizes, 0⟩) (c3 := iC (1 + o)) (c4 := zC sc) (c5 := none) (c7 := none) (c8 := none) (c9 := none) (c10 := none) (c11 := none) (c12 := none) (c13 := none) (c14 := none) (c15 := none) (c16 := none) (c17 := none) (c18 := none) g2 (n := 1 + o) (ns := pool) (by omega) (by omega)
  obtain ⟨l4, a6, a8, a9, a10, a11, a12, ns4, ps, e4, g4, g6, hps, hpr⟩ := wide_persons (sizes := sizes) (out := 1 + o) (sc := sc) (c5 := some ⟨.tup (ts.map D.str), 0⟩) (c6 := none) (c8 := none) (c9 := none) (c10 := none) (c11 := none) (c12 := none) (c14 := none) (c15 := none) (c16 := none) (c17 := none) (c18 := none) g3 hsc1.1 hsc1.2 hs (by omega) (ns := ns3) (by omega) (by omega) fz0_none
  obtain ⟨m, l5, e5, g5, hm⟩ := draw_e (m := 4) g4 (by decide) (by decide)
  have hrm := rg_one m (by omega)
  obtain ⟨l6, b6, b15, mu, e6, g7, hmul, hmu⟩ := wide_menu (sizes := sizes) (out := 1 + o) (sc := sc) (c2 := some ⟨.lst (ns4.map D.str), 1⟩) (c5 := some ⟨.tup (ts.map D.str), 0⟩) (c6 := a6) (c7 := some ⟨.lst (ps.map Prsn.d), 1⟩) (c8 := a8) (c9 := a9) (c10 := a10) (c11 := a11) (c12 := a12) (c13 := none) (c15 := none) (c17 := none) (c18 := none) g5 hsc1.1 hsc1.2 (by omega) (by omega) hs (n := 1 + m) (by omega)
  have e7 := sizes_lists_w (c0 := some ⟨.lst l6, 1⟩) (c1 := some ⟨nD sizes, 0⟩) (c2 := some ⟨.lst (ns4.map D.str), 1⟩) (c3 := iC (1 + o)) (c4 := zC sc) (c5 := some ⟨.tup (ts.map D.str), 0⟩) (c6 := b6) (c7 := some ⟨.lst (ps.map Prsn.d), 1⟩) (c8 := a8) (c9 := a9) (c10 := a10) (c11 := a11) (c12 := a12) (c13 := none) (c14 := some ⟨.lst (mu.map End.d), 1⟩) (c15 := b15) (c17 := none) (c18 := none) hs
  obtain ⟨l8, es, e8, g8, hel, he⟩ := wide_ends (c1 := some ⟨nD sizes, 0⟩) (c2 := some ⟨.lst (ns4.map D.str), 1⟩) (c3 := iC (1 + o)) (c4 := zC sc) (c5 := some ⟨.tup (ts.map D.str), 0⟩) (c6 := b6) (c7 := some ⟨.lst (ps.map Prsn.d), 1⟩) (c8 := a8) (c9 := a9) (c10 := a10) (c11 := a11) (c12 := a12) (c13 := none) (c15 := b15) (c16 := none) (c17 := none) g7 (menu := mu) (by omega) (by omega) (rows := rowsOf sizes)
  obtain ⟨sl, l9, e9, g9, hsl⟩ := pick_ints g8 (is := [0, 1, 4000000000000]) (by decide) (by decide)
  have hsl1 : 0 ≤ sl ∧ sl ≤ 4000000000000 := by
    simp only [List.mem_cons, List.not_mem_nil, or_false] at hsl
    omega
  have hr := hs.rows
  refine ⟨⟨ts, ps, es, sl⟩, l9, ?_, g9, ⟨hps, fun p q hq => ?_, by simp only; omega, by simp only; omega, by rw [hel, rowsOf_len], fun e h => ?_, hsl1.1, hsl1.2⟩⟩
  · have ec : (1 : Int) + (o : Int) = ((1 + o : Nat) : Int) := by omega
    simp only [iC, zC, ← ec] at e3 e4 e6 e7 e8
    have hsl16 : sizes.length ≤ 16777216 := by omega
    have ho16 : 1 + o ≤ 16777216 := by omega
    have hr16 : (rowsOf sizes).length ≤ 16777216 := by rw [rowsOf_len]; omega
    simp only [List.map_cons, List.map_nil] at e2 e9
    simp (maxSteps := 1000000) -implicitDefEqProofs [c__law_wide_house, m__law_wide_house, law_pool_ok, e1, e2, hro.1, hro.2, e3, rgB_nat hsl16, rgD_nat', e4, e5, hrm.1, hrm.2, e6, e7, rows_sizes hs, e8, e9, House.d, hsl16, ho16, hr16]
  · have := hpr p q hq
    rw [← ht] at this
    exact this
  · have := hmu e (he e h)
    rw [← ht] at this
    exact this
end S

/-! S: hearings. -/
namespace S
open Z PySem PySem.Spec PyProof.Rows L2
inductive Hr where
  | fin
  | ask (p : Nat) (rows : List (List Nat × Hr))
theorem Hr.ind {P : Hr → Prop} (h0 : P .fin) (h1 : ∀ p rows, (∀ r ∈ rows, P r.2) → P (.ask p rows)) : ∀ h, P h
  | .fin => h0
  | .ask p rows => h1 p rows fun r hr => Hr.ind h0 h1 r.2
termination_by h => sizeOf h
decreasing_by
  have := List.sizeOf_lt_of_mem hr
  obtain ⟨a, b⟩ := r
  simp at this ⊢
  omega
def Hr.d : Hr → D
  | .fin => .tup [.str "end"]
  | .ask p rows => .tup [.str "ask", .int (p : Int), .tup (rows.attach.map fun ⟨r, _⟩ => .tup [nD r.1, r.2.d])]
termination_by h => sizeOf h
decreasing_by
  rename_i hr
  have := List.sizeOf_lt_of_mem hr
  obtain ⟨a, b⟩ := r
  simp at this ⊢
  omega
def rowD (r : List Nat × Hr) : D := .tup [nD r.1, r.2.d]
theorem Hr.d_fin : Hr.fin.d = .tup [.str "end"] := by unfold Hr.d; rfl
theorem Hr.d_ask {p : Nat} {rows : List (List Nat × Hr)} : (Hr.ask p rows).d = .tup [.str "ask", .int (p : Int), .tup (rows.map rowD)] := by
  conv => lhs; unfold Hr.d
  have : (rows.attach.map fun (x : {x // x ∈ rows}) => D.tup [nD x.1.1, x.1.2.d]) = rows.map rowD := by
    refine List.ext_getElem (by simp) fun i h1 h2 => ?_
    simp [rowD]
  rw [← this]
/-- nodes in the order in which a stack gives them -/
def Hr.nodes : Hr → List Nat → Box → List (List Nat × Box × Hr)
  | .fin, path, b => [(path, b, .fin)]
  | .ask p rows, path, b => (path, b, .ask p rows) :: (rows.attach.zipIdx.map fun (⟨r, _⟩, k) => r.2.nodes (path ++ [k]) (b.set p r.1)).flatten
termination_by h => sizeOf h
decreasing_by
  rename_i hr
  have := List.sizeOf_lt_of_mem hr
  obtain ⟨a, b⟩ := r
  simp at this ⊢
  omega
theorem Hr.nodes_fin {path : List Nat} {b : Box} : Hr.fin.nodes path b = [(path, b, .fin)] := by unfold Hr.nodes; rfl
def subNodes (p : Nat) (path : List Nat) (b : Box) (x : (List Nat × Hr) × Nat) : List (List Nat × Box × Hr) := x.1.2.nodes (path ++ [x.2]) (b.set p x.1.1)
theorem Hr.nodes_ask {p : Nat} {rows : List (List Nat × Hr)} {path : List Nat} {b : Box} : (Hr.ask p rows).nodes path b = (path, b, .ask p rows) :: (rows.zipIdx.map (subNodes p path b)).flatten := by
  conv => lhs; unfold Hr.nodes
  congr 2
  refine List.ext_getElem (by simp) fun i h1 h2 => ?_
  simp [subNodes]
/-- a hearing of a box -/
inductive HearOk : Box → Hr → Prop
  | fin {b : Box} : HearOk b .fin
  | ask {b : Box} {p : Nat} {rows : List (List Nat × Hr)} : p < b.length → 2 ≤ rows.length → (∀ r ∈ rows, r.1 ≠ [] ∧ r.1.Sublist (b.getD p [])) → (rows.map (·.1)).flatten.Perm (b.getD p []) → (∀ r ∈ rows, HearOk (b.set p r.1) r.2) → HearOk b (.ask p rows)
end S

/-! S: parts of a share. -/
namespace S
open Z PySem PySem.Spec PyProof.Rows L2
theorem ixN_nat' {n j : Nat} (hj : j < n) : ixN n (j : Int) = some j := by
  unfold ixN
  rw [if_pos (by omega), if_pos (by omega)]
  simp
def pD (q : List Nat) : D := .lst (nL q)
structure PartsOk (ps : List (List Nat)) (done : List Nat) : Prop where
  el : ∀ q ∈ ps, q ≠ [] ∧ q.Sublist done
  pm : ps.flatten.Perm done
theorem PartsOk.len {ps : List (List Nat)} {done : List Nat} (h : PartsOk ps done) : ps.length ≤ done.length := by
  rw [← h.pm.length_eq]
  have : ∀ q ∈ ps, q ≠ [] := fun q hq => (h.el q hq).1
  clear h
  induction ps with
  | nil => simp
  | cons a r ih =>
    have h1 := ih fun q hq => this q (List.mem_cons_of_mem _ hq)
    have h2 : 0 < a.length := List.length_pos_iff.mpr (this a (List.mem_cons_self ..))
    rw [List.flatten_cons, List.length_append, List.length_cons]
    omega
theorem PartsOk.snoc {ps : List (List Nat)} {done : List Nat} {k : Nat} (h : PartsOk ps done) : PartsOk (ps ++ [[k]]) (done ++ [k]) := by
  refine ⟨fun q hq => ?_, ?_⟩
  · rw [List.mem_append, List.mem_singleton] at hq
    rcases hq with hq | rfl
    · exact ⟨(h.el q hq).1, (h.el q hq).2.trans (List.sublist_append_left _ _)⟩
    · exact ⟨by simp, List.sublist_append_right _ _⟩
  · rw [List.flatten_append]
    exact h.pm.append_right _
theorem flatten_set : ∀ {ps : List (List Nat)} {i k : Nat} {q : List Nat}, ps[i]? = some q → (ps.set i (q ++ [k])).flatten.Perm (ps.flatten ++ [k])
  | [], i, k, q, h => by simp at h
  | a :: r, 0, k, q, h => by
    simp at h
    subst h
    simp only [List.set_cons_zero, List.flatten_cons, List.append_assoc]
    exact List.Perm.append_left _ List.perm_append_comm
  | a :: r, i + 1, k, q, h => by
    simp only [List.set_cons_succ, List.flatten_cons, List.append_assoc]
    exact (flatten_set (by simpa using h)).append_left _
theorem PartsOk.grow {ps : List (List Nat)} {done q : List Nat} {i k : Nat} (h : PartsOk ps done) (hq : ps[i]? = some q) : PartsOk (ps.set i (q ++ [k])) (done ++ [k]) := by
  refine ⟨fun z hz => ?_, (flatten_set hq).trans (h.pm.append_right _)⟩
  rcases List.mem_or_eq_of_mem_set hz with hz | rfl
  · exact ⟨(h.el z hz).1, (h.el z hz).2.trans (List.sublist_append_left _ _)⟩
  · exact ⟨by simp, (h.el q (List.mem_of_getElem? hq)).2.append (List.Sublist.refl _)⟩
theorem set_pD {ps : List (List Nat)} {i k : Nat} {q : List Nat} : (ps.map pD).set i (.lst (nL q ++ [.int (k : Int)])) = (ps.set i (q ++ [k])).map pD := by
  rw [List.map_set]
  simp [pD, nL]
theorem law_parts_e {l : List D} {ks : List Nat} (h : DSl l) (h2 : 2 ≤ ks.length) (h8 : ks.length ≤ 1000) : ∃ (ps : List (List Nat)) (l' : List D), c__law_parts [⟨.lst l, 1⟩, ⟨nD ks, 0⟩] = .ok (⟨Box.d ps, 0⟩, [⟨.lst l', 1⟩, ⟨nD ks, 0⟩]) ∧ DSl l' ∧ 2 ≤ ps.length ∧ PartsOk ps ks := by
  obtain ⟨k0, kr, rfl⟩ : ∃ a r, ks = a :: r := by
    cases ks with
    | nil => simp at h2
    | cons a r => exact ⟨a, r, rfl⟩
  obtain ⟨⟨l1, ps, c3, c4⟩, e1, h1, done, hd, hp⟩ := for_rel (it := ⟨nL kr, none⟩) (g := gN 3) (body := b__law_parts_1) (L := [0]) (fun (i : Nat) => D.int (i : Int))
    (fun s : List D × List (List Nat) × Option Cell × Option Cell => [some ⟨.lst s.1, 1⟩, some ⟨nD (k0 :: kr), 0⟩, some ⟨.lst (s.2.1.map pD), 2⟩, s.2.2.1, s.2.2.2, none])
    (fun r s => DSl s.1 ∧ ∃ done, k0 :: kr = done ++ r ∧ PartsOk s.2.1 done) (ds := kr) (s := (l, [[k0]], none, none)) ⟨h, [k0], rfl, by simp, by simp⟩ (fun a r ⟨l, ps, c3, c4⟩ ⟨h, done, hd, hp⟩ => by
      simp only at h hp
      have hln : done.length ≤ 1000 := by
        have := congrArg List.length hd
        simp only [List.length_cons, List.length_append] at this h8
        omega
      have hpl := hp.len
      obtain ⟨n, l2, e, h3, hn⟩ := drawN_e (m := ps.length + 1) h (by omega) (by omega)
      rw [Int.natCast_add, show ((1 : Nat) : Int) = 1 from rfl] at e
      by_cases hnp : n = ps.length
      · refine ⟨(l2, ps ++ [[a]], iC a, iC n), ?_, h3, done ++ [a], by simp [hd], hp.snoc⟩
        have hlen : (ps.map pD).length < 16777216 := by simp; omega
        subst hnp
        simp (maxSteps := 1000000) -implicitDefEqProofs [step1, b__law_parts_1, e, mApp2, hlen, show ps.length < 16777216 by omega, pD, nL]
      · have hlt : n < ps.length := by omega
        have hix : ixN ps.length (n : Int) = some n := ixN_nat' hlt
        have hne : ¬ (n : Int) = (ps.length : Int) := by omega
        have hg : (ps.map pD)[n]? = some (.lst (nL ps[n])) := by simp [hlt, pD]
        have hpn : ps[n]? = some ps[n] := List.getElem?_eq_getElem hlt
        have hsl : (ps[n]).length ≤ done.length := ((hp.el _ (List.getElem_mem hlt)).2).length_le
        refine ⟨(l2, ps.set n (ps[n] ++ [a]), iC a, iC n), ?_, h3, done ++ [a], by simp [hd], hp.grow hpn⟩
        have hlen : (ps[n]).length < 16777216 := by omega
        have hs := set_pD (ps := ps) (i := n) (k := a) (q := ps[n])
        simp (maxSteps := 1000000) -implicitDefEqProofs [-List.getElem?_map, step1, b__law_parts_1, e, mAppIx, hne, hix, hg, hlen, hs, esc])
  rw [List.append_nil] at hd
  subst hd
  have ec : cutD (nL (k0 :: kr)) (some 1) none = nL kr := by
    have := cutD_from (l := nL (k0 :: kr)) (k := 1) (by simp [nL])
    rw [show ((1 : Nat) : Int) = 1 from rfl] at this
    rw [this]
    rfl
  have comp : ∀ (ps : List (List Nat)) (l : List D) (c3 c4 : Option Cell), ps.length ≤ 1000 → loopC ⟨ps.map pD, none⟩ (gN 5) mYes e__law_parts_2 [5] (ps.map pD) [some ⟨.lst l, 1⟩, some ⟨nD (k0 :: kr), 0⟩, some ⟨.lst (ps.map pD), 0⟩, c3, c4, none] = .ok (ps.map nD, [some ⟨.lst l, 1⟩, some ⟨nD (k0 :: kr), 0⟩, some ⟨.lst (ps.map pD), 0⟩, c3, c4, none]) := fun ps l c3 c4 _ =>
    comp_m pD nD fun q hq => by
      simp -implicitDefEqProofs [comp1, e__law_parts_2, pD]
      rfl
  simp only at hp h1 e1
  have hpl := hp.len
  have e0 : kr.map (fun (i : Nat) => D.int (i : Int)) = nL kr := rfl
  rw [e0] at e1
  have ex : fIx [⟨nD (k0 :: kr), 0⟩, ⟨.int 0, 0⟩] = .ok ⟨.int (k0 : Int), 0⟩ := ixT0
  have el : ∀ q : List Nat, D.lst (nL q) = pD q := fun _ => rfl
  have el1 : D.lst [.int (k0 : Int)] = pD [k0] := rfl
  have es : fSl ⟨nD (k0 :: kr), 0⟩ (some 1) none = .ok ⟨.tup (nL kr), 0⟩ := by rw [← ec]; rfl
  have els : fList [⟨.tup (nL kr), 0⟩] = .ok ⟨pD kr, 1⟩ := rfl
  have f1 : freshes [Src.v ⟨pD [k0], 1⟩] = some [nL [k0]] := rfl
  have f2 : freshes [Src.v ⟨pD [k0], 1⟩, Src.v ⟨pD kr, 1⟩] = some [nL [k0], nL kr] := rfl
  have et : ∀ ps : List (List Nat), D.tup (ps.map nD) = Box.d ps := fun _ => rfl
  by_cases h1p : ps.length = 1
  · have hkr : kr ≠ [] := fun z => by subst z; simp at h2
    refine ⟨[[k0], kr], l1, ?_, h1, by simp, ⟨fun q hq => ?_, by simp⟩⟩
    · have ec2 := comp [[k0], kr] l1 c3 c4 (by simp)
      have et2 := et [[k0], kr]
      simp only [List.map_cons, List.map_nil] at ec2 e1 et2
      have elp : fList [⟨pD kr, 1⟩] = .ok ⟨pD kr, 1⟩ := rfl
      have ei : itemsOf (D.lst [pD [k0], pD kr]) = some [pD [k0], pD kr] := rfl
      simp (maxSteps := 1000000) -implicitDefEqProofs [c__law_parts, m__law_parts, mLst2, f1, f2, ex, el, el1, es, els, e1, h1p, elp, ei, ec2, et2]
    · simp only [List.mem_cons, List.not_mem_nil, or_false] at hq
      rcases hq with rfl | rfl
      · exact ⟨by simp, by simp⟩
      · exact ⟨hkr, List.sublist_cons_self _ _⟩
  · have ec2 := comp ps l1 c3 c4 (by simp only [List.length_cons] at h8; simp only [List.length_cons] at hpl; omega)
    refine ⟨ps, l1, ?_, h1, ?_, hp⟩
    · simp only [List.map_cons, List.map_nil] at e1
      have hle : ps.length ≤ 16777216 := by omega
      have h1p' : ¬ (ps.length : Int) = 1 := by omega
      simp (maxSteps := 1000000) -implicitDefEqProofs [c__law_parts, m__law_parts, mLst2, f1, ex, el, el1, es, els, e1, h1p', ec2, et, hle]
    · have : ps.length ≠ 0 := fun z => by
        have := hp.pm.length_eq
        rw [List.length_eq_zero_iff.mp z] at this
        simp at this
      omega
end S

/-! S: the drawn hearing. -/
namespace S
open Z PySem PySem.Spec PyProof.Rows L2
theorem law_narrowed_D {bs l : List D} {p : Nat} (hp : p < bs.length) (hl : bs.length ≤ 1000) : c__law_narrowed [⟨.tup bs, 0⟩, ⟨.int (p : Int), 0⟩, ⟨.tup l, 0⟩] = .ok (⟨.tup (bs.set p (.tup l)), 0⟩, [⟨.tup bs, 0⟩, ⟨.int (p : Int), 0⟩, ⟨.tup l, 0⟩]) := by
  have e1 := cutD_to (l := bs) (k := p) (by omega)
  have e2 := cutD_from (l := bs) (k := p + 1) (by omega)
  rw [show ((p + 1 : Nat) : Int) = (p : Int) + 1 by omega] at e2
  have e3 : bs.set p (.tup l) = bs.take p ++ .tup l :: bs.drop (p + 1) := by rw [List.set_eq_take_append_cons_drop, if_pos hp]
  simp [c__law_narrowed, m__law_narrowed, e1, e2, f_addT, e3, show p ≤ 10000 by omega, show bs.length - (p + 1) ≤ 10000 by omega, show bs.length ≤ 10000 by omega, Nat.min_eq_left (show p ≤ bs.length by omega), show p + 1 ≤ 10000 by omega]
theorem law_narrowed_ok {b : Box} {p : Nat} {q : List Nat} (hp : p < b.length) (hl : b.length ≤ 1000) : c__law_narrowed [⟨Box.d b, 0⟩, ⟨.int (p : Int), 0⟩, ⟨nD q, 0⟩] = .ok (⟨Box.d (b.set p q), 0⟩, [⟨Box.d b, 0⟩, ⟨.int (p : Int), 0⟩, ⟨nD q, 0⟩]) := by
  have e := law_narrowed_D (bs := b.map nD) (l := nL q) (p := p) (by simpa using hp) (by simpa using hl)
  have e2 : (b.map nD).set p (.tup (nL q)) = (b.set p q).map nD := by rw [List.map_set]; rfl
  rw [e2] at e
  exact e
/-- the two parts: the first and the rest -/
theorem PartsOk.two {q : List Nat} {ps : List (List Nat)} {ks : List Nat} (h : PartsOk (q :: ps) ks) (hn : ks.Nodup) (h2 : 2 ≤ (q :: ps).length) : PartsOk [q, ks.filter fun k => decide (k ∉ q)] ks := by
  have hp := h.pm
  rw [List.flatten_cons] at hp
  have hnd : (q ++ ps.flatten).Nodup := hp.nodup_iff.mpr hn
  have e1 : q.filter (fun k => decide (k ∉ q)) = [] := by
    rw [List.filter_eq_nil_iff]
    intro a ha
    simp [ha]
  have e2 : ps.flatten.filter (fun k => decide (k ∉ q)) = ps.flatten := by
    rw [List.filter_eq_self]
    intro a ha
    have := (List.nodup_append.mp hnd).2.2
    simp only [decide_eq_true_eq]
    intro z
    exact this a z a ha rfl
  have hf := hp.filter fun k => decide (k ∉ q)
  rw [List.filter_append, e1, e2, List.nil_append] at hf
  refine ⟨fun z hz => ?_, ?_⟩
  · simp only [List.mem_cons, List.not_mem_nil, or_false] at hz
    rcases hz with rfl | rfl
    · exact h.el _ (List.mem_cons_self ..)
    · refine ⟨fun z => ?_, List.filter_sublist⟩
      rw [z] at hf
      cases ps with
      | nil => simp at h2
      | cons a r =>
        have h3 := (h.el a (by simp)).1
        have := hf.length_eq
        rw [List.flatten_cons, List.length_append] at this
        have h4 := List.length_pos_iff.mpr h3
        simp only [List.length_nil] at this
        omega
  · simp only [List.flatten_cons, List.flatten_nil, List.append_nil]
    exact (hf.symm.append_left q).trans hp
/-! many leaves -/
def Hr.many : Hr → Nat
  | .fin => 1
  | .ask _ rows => (rows.attach.map fun ⟨r, _⟩ => r.2.many).sum
termination_by h => sizeOf h
decreasing_by
  rename_i hr
  have := List.sizeOf_lt_of_mem hr
  obtain ⟨a, b⟩ := r
  simp at this ⊢
  omega
theorem Hr.many_fin : Hr.fin.many = 1 := by unfold Hr.many; rfl
theorem Hr.many_ask {p : Nat} {rows : List (List Nat × Hr)} : (Hr.ask p rows).many = (rows.map fun r => r.2.many).sum := by
  conv => lhs; unfold Hr.many
  congr 1
  refine List.ext_getElem (by simp) fun i h1 h2 => ?_
  simp
theorem sum_le {l : List Nat} {k : Nat} (h : ∀ x ∈ l, x ≤ k) : l.sum ≤ l.length * k := by
  induction l with
  | nil => simp
  | cons a r ih =>
    have h1 := h a (List.mem_cons_self ..)
    have h2 := ih fun x hx => h x (List.mem_cons_of_mem _ hx)
    rw [List.sum_cons, List.length_cons, Nat.succ_mul]
    omega
end S

namespace S
open Z PySem PySem.Spec PyProof.Rows L2
theorem f_div {a b : Nat} {k k' : Nat} (h : 0 < b) (h' : b < 1073741824) : fDiv [⟨.int (a : Int), k⟩, ⟨.int (b : Int), k'⟩] = .ok ⟨.int ((a / b : Nat) : Int), 0⟩ := by
  unfold fDiv fI2
  simp only
  rw [if_pos ⟨by omega, by omega⟩]
  rfl
theorem rows_d {rows : List (List Nat × Hr)} : (rows.map rowD).length = rows.length := by simp
theorem getD_set_ne' {b : Box} {p i : Nat} {q : List Nat} (h : i ≠ p) : (b.set p q).getD i [] = b.getD i [] := by
  simp [List.getD_eq_getElem?_getD, List.getElem?_set_ne (Ne.symm h)]
theorem rows_zip {ps : List (List Nat)} {hs : List Hr} : (ps.zip hs).map rowD = List.zipWith (fun q (h : Hr) => D.tup [nD q, h.d]) ps hs := by
  rw [List.zip, List.map_zipWith]
  rfl
theorem law_able (f : FD) {l : List D} {b : Box} {m : D} : loopC ⟨rgI b.length, none⟩ (gN 4) (t__law_hearing_1 f) (e__law_hearing_2 f) [4] (rgI b.length) [some ⟨.lst l, 1⟩, some ⟨Box.d b, 0⟩, some ⟨m, 0⟩, none, none, none, none, none, none] =
    .ok (nL ((List.range b.length).filter fun i => decide (1 < (b.getD i []).length)), [some ⟨.lst l, 1⟩, some ⟨Box.d b, 0⟩, some ⟨m, 0⟩, none, none, none, none, none, none]) :=
  comp_f (fun (i : Nat) => D.int (i : Int)) (fun i => decide (1 < (b.getD i []).length)) (fun (i : Nat) => D.int (i : Int)) fun i hi => by
    have hi2 : i < b.length := by simpa using hi
    have ex : fIx [⟨Box.d b, 0⟩, ⟨.int (i : Int), 0⟩] = .ok ⟨nD (b.getD i []), 0⟩ := ixT (map_some hi2)
    by_cases hl : 1 < (b.getD i []).length
    · have hl' : ((1 : Int) < ((b.getD i []).length : Int)) = True := eq_true (by omega)
      simp -implicitDefEqProofs [-List.getD_eq_getElem?_getD, comp1, t__law_hearing_1, e__law_hearing_2, ex, hl, hl']
    · have hl' : ((1 : Int) < ((b.getD i []).length : Int)) = False := eq_false (by omega)
      simp -implicitDefEqProofs [-List.getD_eq_getElem?_getD, comp1, t__law_hearing_1, e__law_hearing_2, ex, hl, hl']
def HearE (f : FD) (many : Nat) : Prop := ∀ {l : List D} {b : Box}, DSl l → b.length ≤ 100 → (∀ q ∈ b, q.length ≤ 100 ∧ q.Nodup) →
    ∃ (h : Hr) (l' : List D), f [⟨.lst l, 1⟩, ⟨Box.d b, 0⟩, ⟨.int (many : Int), 0⟩] = .ok (⟨h.d, 0⟩, [⟨.lst l', 1⟩, ⟨Box.d b, 0⟩, ⟨.int (many : Int), 0⟩]) ∧ DSl l' ∧ HearOk b h ∧ h.many ≤ max 1 many
theorem box_len {b : Box} {k : Nat} : fLen [⟨Box.d b, k⟩] = .ok ⟨.int (b.length : Int), 0⟩ := by
  have : fLen [⟨.tup (b.map nD), k⟩] = .ok ⟨.int (b.length : Int), 0⟩ := by simp
  exact this
theorem law_hearing_loop (f : FD) {many p : Nat} {l : List D} {b : Box} {ps : List (List Nat)} {c3 c6 c8 : Option Cell} (hm1 : many ≤ 1000) (hf : ∀ m', m' ≤ many / 2 → HearE f m') (h : DSl l) (hb : b.length ≤ 100) (hq : ∀ q ∈ b, q.length ≤ 100 ∧ q.Nodup) (hp : p < b.length)
    (hps : PartsOk ps (b.getD p [])) (h2 : 2 ≤ ps.length) (hpm : ps.length ≤ many) :
    ∃ (l' : List D) (c8' : Option Cell) (rows : List (List Nat × Hr)), loopF ⟨ps.map nD, none⟩ (gN 8) (b__law_hearing_5 f) [0] (ps.map nD) [some ⟨.lst l, 1⟩, some ⟨Box.d b, 0⟩, iC many, c3, iC p, some ⟨Box.d ps, 0⟩, c6, some ⟨.lst [], 1⟩, c8] =
      .ok (.next, [some ⟨.lst l', 1⟩, some ⟨Box.d b, 0⟩, iC many, c3, iC p, some ⟨Box.d ps, 0⟩, c6, some ⟨.lst (rows.map rowD), 1⟩, c8']) ∧ DSl l' ∧ Paired (fun q r => r.1 = q ∧ HearOk (b.set p q) r.2 ∧ r.2.many ≤ max 1 (many / ps.length)) ps rows := by
  obtain ⟨⟨l', c8'⟩, rows, e, h1, hpp⟩ := for_app (it := ⟨ps.map nD, none⟩) (g := gN 8) (body := b__law_hearing_5 f) (L := [0]) (ds := ps) (s := (l, c8)) (acc := []) nD
    (fun (s : List D × Option Cell) (acc : List (List Nat × Hr)) => [some ⟨.lst s.1, 1⟩, some ⟨Box.d b, 0⟩, iC many, c3, iC p, some ⟨Box.d ps, 0⟩, c6, some ⟨.lst (acc.map rowD), 1⟩, s.2]) (fun s => DSl s.1) (fun q r => r.1 = q ∧ HearOk (b.set p q) r.2 ∧ r.2.many ≤ max 1 (many / ps.length)) h (by simp; omega) (fun q hqm s acc hs hl => by
      have hdv : many / ps.length ≤ many / 2 := Nat.div_le_div_left h2 (by omega)
      have hsub := (hps.el q hqm).2
      have hbp : b.getD p [] ∈ b := by simp [List.getElem?_eq_getElem hp]
      obtain ⟨hh, l2, e2, h3, h4, h5⟩ := hf (many / ps.length) hdv (l := s.1) (b := b.set p q) hs (by simpa using hb) (fun z hz => by
        rcases List.mem_or_eq_of_mem_set hz with hz | rfl
        · exact hq z hz
        · exact ⟨Nat.le_trans hsub.length_le (hq _ hbp).1, hsub.nodup (hq _ hbp).2⟩)
      refine ⟨(l2, some ⟨nD q, 0⟩), (q, hh), ?_, h3, rfl, h4, h5⟩
      have en := law_narrowed_ok (b := b) (p := p) (q := q) hp (by omega)
      have ed := f_div (a := many) (b := ps.length) (k := 0) (k' := 0) (by omega) (by omega)
      have er : D.tup [nD q, hh.d] = rowD (q, hh) := rfl
      rw [Int.natCast_ediv] at e2 ed
      simp (maxSteps := 1000000) -implicitDefEqProofs [step1, b__law_hearing_5, en, ed, box_len, e2, f_app (show (acc.map rowD).length ≤ 10000 by simpa using hl), er])
  simp only [List.nil_append] at e
  exact ⟨l', c8', rows, e, h1, hpp⟩
theorem law_hearing_step (f : FD) {many : Nat} (hm1 : many ≤ 1000) (hf : 2 ≤ many → ∀ m', m' ≤ many / 2 → HearE f m') : HearE (runDef 9 (m__law_hearing f)) many := by
  intro l b h hb hq
  have ea := law_able f (l := l) (b := b) (m := .int (many : Int))
  have el : fLen [⟨Box.d b, 0⟩] = .ok ⟨.int (b.length : Int), 0⟩ := by
    have : fLen [⟨.tup (b.map nD), 0⟩] = .ok ⟨.int (b.length : Int), 0⟩ := by simp
    exact this
  have eb1 := rgB_nat (show b.length ≤ 16777216 by omega)
  have hb2 : b.length ≤ 16777216 := by omega
  generalize hab : (List.range b.length).filter (fun i => decide (1 < (b.getD i []).length)) = ab at ea
  by_cases h0 : ab = []
  · subst h0
    refine ⟨.fin, l, ?_, h, .fin, by rw [Hr.many_fin]; omega⟩
    have e0 : nL [] = [] := rfl
    rw [e0] at ea
    simp (maxSteps := 1000000) -implicitDefEqProofs [m__law_hearing, eb1, rgD_nat', hb2, ea, el, Hr.d_fin]
  by_cases hm2 : many < 2
  · refine ⟨.fin, l, ?_, h, .fin, by rw [Hr.many_fin]; omega⟩
    have hm2' : ((many : Int) < 2) = True := eq_true (by omega)
    have h0' : (nL ab).isEmpty = false := by
      cases ab with
      | nil => exact absurd rfl h0
      | cons a r => rfl
    simp (maxSteps := 1000000) -implicitDefEqProofs [m__law_hearing, eb1, rgD_nat', hb2, ea, el, Hr.d_fin, h0', hm2']
  obtain ⟨n, l1, e1, h1, hn⟩ := draw_e (m := 8) h (by decide) (by decide)
  have hm2' : ((many : Int) < 2) = False := eq_false (by omega)
  have h0' : (nL ab).isEmpty = false := by
    cases ab with
    | nil => exact absurd rfl h0
    | cons a r => rfl
  by_cases hn3 : n = 3
  · refine ⟨.fin, l1, ?_, h1, .fin, by rw [Hr.many_fin]; omega⟩
    subst hn3
    simp (maxSteps := 1000000) -implicitDefEqProofs [m__law_hearing, eb1, rgD_nat', hb2, ea, el, Hr.d_fin, h0', hm2', e1]
  have hn3' : ((n : Int) = 3) = False := eq_false (by omega)
  have hab1 : 0 < ab.length := List.length_pos_iff.mpr h0
  have hab2 : ab.length ≤ 100 := by
    rw [← hab]
    have := List.length_filter_le (fun i => decide (1 < (b.getD i []).length)) (List.range b.length)
    rw [List.length_range] at this
    omega
  have hpk := pickL_s (l := l1) (row := nL ab) (k := 1) (by omega) h1 (by rw [nL_len]; exact hab1) (by rw [nL_len]; omega)
  have hk := dN_ltN (l := l1) (m := ab.length) h1 hab1 (by omega)
  rw [nL_len] at hpk
  have hg : (nL ab).getD (dN l1 (ab.length : Nat)) .non = .int (ab.getD (dN l1 (ab.length : Nat)) 0 : Nat) := by simp [nL, List.getElem?_eq_getElem hk]
  have hmem : ab.getD (dN l1 (ab.length : Nat)) 0 ∈ ab := by simp [List.getElem?_eq_getElem hk]
  rw [hg] at hpk
  generalize ab.getD (dN l1 (ab.length : Nat)) 0 = p at hpk hmem
  rw [← hab, List.mem_filter] at hmem
  obtain ⟨hp, hp2⟩ := hmem
  rw [List.mem_range] at hp
  simp only [decide_eq_true_eq] at hp2
  have hbp : b.getD p [] ∈ b := by simp [List.getElem?_eq_getElem hp]
  have hqp := hq _ hbp
  have ex : fIx [⟨Box.d b, 0⟩, ⟨.int (p : Int), 0⟩] = .ok ⟨nD (b.getD p []), 0⟩ := ixT (map_some hp)
  obtain ⟨ps, l3, e3, h3, hps2, hpo⟩ := law_parts_e (l := dL l1 (ab.length : Nat)) (ks := b.getD p []) h1.d (by omega) (by omega)
  have fin : ∀ {ps : List (List Nat)} {rows : List (List Nat × Hr)}, PartsOk ps (b.getD p []) → 2 ≤ ps.length → ps.length ≤ many → Paired (fun q r => r.1 = q ∧ HearOk (b.set p q) r.2 ∧ r.2.many ≤ max 1 (many / ps.length)) ps rows → HearOk b (.ask p rows) ∧ (Hr.ask p rows).many ≤ max 1 many := fun {ps rows} hpo h2 hpm hpp => by
    have hmap : rows.map (·.1) = ps := by
      clear hpo h2 hpm
      generalize max 1 (many / ps.length) = c at hpp
      induction hpp with
      | nil => rfl
      | cons h1 _ ih => rw [List.map_cons, ih, h1.1]
    have hall : ∀ r ∈ rows, HearOk (b.set p r.1) r.2 ∧ r.2.many ≤ max 1 (many / ps.length) := pr_all hpp fun a r h => ⟨h.1 ▸ h.2.1, h.2.2⟩
    refine ⟨.ask hp (by rw [← pr_len hpp]; exact h2) (fun r hr => hpo.el _ (by rw [← hmap]; exact List.mem_map_of_mem hr)) (by rw [hmap]; exact hpo.pm) fun r hr => (hall r hr).1, ?_⟩
    rw [Hr.many_ask]
    have hd1 : 1 ≤ many / ps.length := (Nat.one_le_div_iff (by omega)).mpr hpm
    have := sum_le (l := rows.map fun r => r.2.many) (k := many / ps.length) fun x hx => by
      obtain ⟨r, hr, rfl⟩ := List.mem_map.mp hx
      have := (hall r hr).2
      omega
    rw [List.length_map, ← pr_len hpp] at this
    have h4 := Nat.mul_div_le many ps.length
    omega
  by_cases hlt : many < ps.length
  · obtain ⟨q, r, rfl⟩ : ∃ a r, ps = a :: r := by
      cases ps with
      | nil => simp at hps2
      | cons a r => exact ⟨a, r, rfl⟩
    have htwo := hpo.two hqp.2 hps2
    have ec := comp_f (it := ⟨nL (b.getD p []), none⟩) (g := gN 6) (tt := t__law_hearing_3 f) (me := e__law_hearing_4 f) (vs := [6]) (ρ := [some ⟨.lst l3, 1⟩, some ⟨Box.d b, 0⟩, some ⟨.int (many : Int), 0⟩, some ⟨.lst (nL ab), 1⟩, some ⟨.int (p : Int), 0⟩, some ⟨Box.d (q :: r), 0⟩, none, none, none]) (fun (i : Nat) => D.int (i : Int)) (fun k => decide (k ∉ q)) (fun (i : Nat) => D.int (i : Int)) (ds := b.getD p []) (fun i hi => by
      have ex0 : fIx [⟨Box.d (q :: r), 0⟩, ⟨.int 0, 0⟩] = .ok ⟨nD q, 0⟩ := ixT0
      by_cases hiq : i ∈ q
      · simp -implicitDefEqProofs [comp1, t__law_hearing_3, e__law_hearing_4, ex0, f_inN, hiq]
      · simp -implicitDefEqProofs [comp1, t__law_hearing_3, e__law_hearing_4, ex0, f_inN, hiq])
    obtain ⟨l4, c8, rows, e4, h4, hpp⟩ := law_hearing_loop f (c3 := some ⟨.lst (nL ab), 1⟩) (c6 := none) (c8 := none) hm1 (hf (by omega)) h3 hb hq hp htwo (by simp) (by simp; omega)
    obtain ⟨f1, f2⟩ := fin htwo (by simp) (by simp; omega) hpp
    refine ⟨.ask p rows, l4, ?_, h4, f1, f2⟩
    have hlt' : ((many : Int) < (r.length : Int) + 1) = True := eq_true (by simp only [List.length_cons] at hlt; omega)
    have ex0 : fIx [⟨Box.d (q :: r), 0⟩, ⟨.int 0, 0⟩] = .ok ⟨nD q, 0⟩ := ixT0
    have ec0 : (b.getD p []).map (fun (i : Nat) => D.int (i : Int)) = nL (b.getD p []) := rfl
    have ec1 : ((b.getD p []).filter fun k => decide (k ∉ q)).map (fun (i : Nat) => D.int (i : Int)) = nL ((b.getD p []).filter fun k => decide (k ∉ q)) := rfl
    rw [ec0, ec1] at ec
    have ed : D.tup [nD q, .tup (nL ((b.getD p []).filter fun k => decide (k ∉ q)))] = Box.d [q, (b.getD p []).filter fun k => decide (k ∉ q)] := rfl
    have ei : itemsOf (Box.d [q, (b.getD p []).filter fun k => decide (k ∉ q)]) = some [nD q, nD ((b.getD p []).filter fun k => decide (k ∉ q))] := rfl
    simp only [List.map_cons, List.map_nil] at e4
    have ei2 : itemsOf (nD (b.getD p [])) = some (nL (b.getD p [])) := rfl
    generalize ((b.getD p []).filter fun k => decide (k ∉ q)) = z at ec ed ei e4
    simp (maxSteps := 1000000) -implicitDefEqProofs [-List.getD_eq_getElem?_getD, m__law_hearing, eb1, rgD_nat', hb2, ea, el, Hr.d_ask, h0', hm2', e1, hn3', hpk, ex, e3, box_len, hlt', ex0, ei2, show (b.getD p []).length ≤ 16777216 by omega, ec, ed, ei, e4]
  · obtain ⟨l4, c8, rows, e4, h4, hpp⟩ := law_hearing_loop f (c3 := some ⟨.lst (nL ab), 1⟩) (c6 := none) (c8 := none) hm1 (hf (by omega)) h3 hb hq hp hpo hps2 (by omega)
    obtain ⟨f1, f2⟩ := fin hpo hps2 (by omega) hpp
    refine ⟨.ask p rows, l4, ?_, h4, f1, f2⟩
    have hlt' : ((many : Int) < ((ps.length : Nat) : Int)) = False := eq_false (by omega)
    have ei : itemsOf (Box.d ps) = some (ps.map nD) := rfl
    simp (maxSteps := 1000000) -implicitDefEqProofs [-List.getD_eq_getElem?_getD, m__law_hearing, eb1, rgD_nat', hb2, ea, el, Hr.d_ask, h0', hm2', e1, hn3', hpk, ex, e3, box_len, hlt', ei, e4]
theorem law_hearing_e : ∀ (n many : Nat), many < 2 ^ n → many ≤ 1000 → HearE (c__law_hearing (n + 1)) many := by
  intro n
  induction n with
  | zero =>
    intro many h1 h2
    exact law_hearing_step (c__law_hearing 0) h2 fun h => by simp at h1; omega
  | succ n ih =>
    intro many h1 h2
    exact law_hearing_step (c__law_hearing (n + 1)) h2 fun _ m' h' => ih m' (by rw [Nat.pow_succ] at h1; omega) (by omega)
end S

namespace S
open Z PySem PySem.Spec PyProof.Rows L2
theorem rg3_down {n : Nat} (h : n ≤ 100000) : rg3B ((n : Int) - 1) (-1) (-1) = true ∧ rg3D ((n : Int) - 1) (-1) (-1) = (List.range n).reverse.map fun (i : Nat) => D.int (i : Int) := by
  have hs : Builtin.Range.rangeSize ((n : Int) - 1) (-1) (-1) = n := by
    unfold Builtin.Range.rangeSize
    simp
    omega
  refine ⟨?_, ?_⟩
  · unfold rg3B
    rw [hs]
    have : Builtin.Range.small ((n : Int) - 1) (-1) (-1) = true := by
      unfold Builtin.Range.small
      rw [hs]
      simp [Builtin.Range.rangeFitsLong]
      try omega
    rw [this]
    simp
  · unfold rg3D
    rw [hs]
    refine List.ext_getElem (by simp) fun i h1 h2 => ?_
    simp at h1 ⊢
    omega
/-- a loop by while -/
theorem while_rel {σ : Type} {t : MT} {body : MS} {L : List Nat} (enc : σ → Z.Env) (I : σ → Prop) (m : σ → Nat) (Done : σ → Prop)
    (h : ∀ s, I s → (t (enc s) = .ok (false, enc s) ∧ Done s) ∨ t (enc s) = .ok (true, enc s) ∧ ∃ s', body L (enc s) = .ok (.next, enc s') ∧ I s' ∧ m s' < m s) :
    ∀ (n : Nat) (s : σ), I s → m s < n → ∃ s', loopW t body L n (enc s) = .ok (.next, enc s') ∧ I s' ∧ Done s' := by
  intro n
  induction n with
  | zero => intro s _ h; omega
  | succ n ih =>
    intro s hs hm
    rcases h s hs with ⟨e, hd⟩ | ⟨e, s', e2, hs', hm'⟩
    · refine ⟨s, ?_, hs, hd⟩
      unfold loopW
      simp [e]
    · obtain ⟨s2, e3, h3⟩ := ih s' hs' (by omega)
      refine ⟨s2, ?_, h3⟩
      unfold loopW
      simp [e, e2, e3]
instance : Inhabited Hr := ⟨.fin⟩
def nodeD (x : List Nat × Box × Hr) : D := .tup [nD x.1, Box.d x.2.1, x.2.2.d]
def subN (p : Nat) (rows : List (List Nat × Hr)) (path : List Nat) (b : Box) (k : Nat) : List Nat × Box × Hr := (path ++ [k], b.set p (rows.getD k default).1, (rows.getD k default).2)
theorem fPop0_snoc {l : List D} {d : D} : fPop0 (l ++ [d]) [] = .ok (d, l) := by
  unfold fPop0
  simp
theorem nL_snoc {p : List Nat} {k : Nat} : nL p ++ [.int (k : Int)] = nL (p ++ [k]) := by simp [nL]
theorem law_nodes_for {found : List D} {w : List (List Nat × Box × Hr)} {c0 c1 c7 c8 c9 : Option Cell} {path : List Nat} {b : Box} {p : Nat} {rows : List (List Nat × Hr)} {L : List Nat} (hp : p < b.length) (hb : b.length ≤ 1000) (hpl : path.length ≤ 10000) (hw : w.length + rows.length ≤ 10000) (h8 : fz0 c8) (h9 : fz0 c9)
    (hL : 4 ∉ L ∧ 5 ∉ L ∧ 6 ∉ L ∧ 7 ∉ L ∧ 8 ∉ L ∧ 9 ∉ L) :
    ∃ c7' c8' c9', loopF ⟨(List.range rows.length).reverse.map fun (i : Nat) => D.int (i : Int), none⟩ (gN 7) b__law_nodes_1 L ((List.range rows.length).reverse.map fun (i : Nat) => D.int (i : Int)) [c0, c1, some ⟨.lst found, 1⟩, some ⟨.lst (w.map nodeD), 1⟩, some ⟨nD path, 0⟩, some ⟨Box.d b, 0⟩, some ⟨(Hr.ask p rows).d, 0⟩, c7, c8, c9] =
      .ok (.next, [c0, c1, some ⟨.lst found, 1⟩, some ⟨.lst ((w ++ (List.range rows.length).reverse.map (subN p rows path b)).map nodeD), 1⟩, some ⟨nD path, 0⟩, some ⟨Box.d b, 0⟩, some ⟨(Hr.ask p rows).d, 0⟩, c7', c8', c9']) ∧ fz0 c8' ∧ fz0 c9' := by
  obtain ⟨hL4, hL5, hL6, hL7, hL8, hL9⟩ := hL
  obtain ⟨⟨c7', c8', c9'⟩, bs, e, ⟨h1, h2⟩, hpp⟩ := for_app (it := ⟨(List.range rows.length).reverse.map fun (i : Nat) => D.int (i : Int), none⟩) (g := gN 7) (body := b__law_nodes_1) (L := L) (ds := (List.range rows.length).reverse) (s := (c7, c8, c9)) (acc := w) (fun (i : Nat) => D.int (i : Int))
    (fun (s : Option Cell × Option Cell × Option Cell) (acc : List (List Nat × Box × Hr)) => [c0, c1, some ⟨.lst found, 1⟩, some ⟨.lst (acc.map nodeD), 1⟩, some ⟨nD path, 0⟩, some ⟨Box.d b, 0⟩, some ⟨(Hr.ask p rows).d, 0⟩, s.1, s.2.1, s.2.2])
    (fun s => fz0 s.2.1 ∧ fz0 s.2.2) (fun k x => x = subN p rows path b k) ⟨h8, h9⟩ (by simp; omega) (fun k hk s acc ⟨hs1, hs2⟩ hl => by
      have hk2 : k < rows.length := by simpa using hk
      refine ⟨(iC k, some ⟨nD (rows.getD k default).1, 0⟩, some ⟨(rows.getD k default).2.d, 0⟩), subN p rows path b k, ?_, ⟨fz0_some, fz0_some⟩, rfl⟩
      have ex1 : fIx [⟨(Hr.ask p rows).d, 0⟩, ⟨.int 2, 0⟩] = .ok ⟨.tup (rows.map rowD), 0⟩ := by rw [Hr.d_ask]; exact ixT2
      have ex2 : fIx [⟨(Hr.ask p rows).d, 0⟩, ⟨.int 1, 0⟩] = .ok ⟨.int (p : Int), 0⟩ := by rw [Hr.d_ask]; exact ixT1
      have ex3 : fIx [⟨.tup (rows.map rowD), 0⟩, ⟨.int (k : Int), 0⟩] = .ok ⟨rowD (rows.getD k default), 0⟩ := ixT (map_some hk2)
      have en := law_narrowed_ok (b := b) (p := p) (q := (rows.getD k default).1) hp hb
      have eadd : fAdd [⟨nD path, 0⟩, ⟨.tup [.int (k : Int)], 0⟩] = .ok ⟨nD (path ++ [k]), 0⟩ := by
        have := f_addT (l := nL path) (m := [.int (k : Int)]) (k := 0) (k' := 0) (by rw [nL_len]; exact hpl) (by simp)
        rw [nL_snoc] at this
        exact this
      have er : D.tup [nD (path ++ [k]), Box.d (b.set p (rows.getD k default).1), (rows.getD k default).2.d] = nodeD (subN p rows path b k) := rfl
      have erd : rowD (rows.getD k default) = .tup [nD (rows.getD k default).1, (rows.getD k default).2.d] := rfl
      generalize (rows.getD k default).1 = q at *
      generalize (rows.getD k default).2.d = hh at *
      rw [erd] at ex3
      simp (maxSteps := 1000000) -implicitDefEqProofs [-List.getD_eq_getElem?_getD, step1, b__law_nodes_1, ex1, ex2, ex3, en, eadd, er, f_app (show (acc.map nodeD).length ≤ 10000 by simpa using hl), hL4, hL5, hL6, hL7, hL8, hL9])
  refine ⟨c7', c8', c9', ?_, h1, h2⟩
  have hbs : bs = (List.range rows.length).reverse.map (subN p rows path b) := by
    clear e h1 h2 hw
    generalize (List.range rows.length).reverse = ds at hpp ⊢
    induction hpp with
    | nil => rfl
    | cons h _ ih => rw [List.map_cons, h, ih]
  rw [hbs] at e
  exact e
/-! nodes -/
def pend (w : List (List Nat × Box × Hr)) : List (List Nat × Box × Hr) := w.reverse.flatMap fun x => x.2.2.nodes x.1 x.2.1
theorem pend_snoc {w : List (List Nat × Box × Hr)} {x : List Nat × Box × Hr} : pend (w ++ [x]) = x.2.2.nodes x.1 x.2.1 ++ pend w := by simp [pend]
theorem pend_sub {w : List (List Nat × Box × Hr)} {p : Nat} {rows : List (List Nat × Hr)} {path : List Nat} {b : Box} : pend (w ++ (List.range rows.length).reverse.map (subN p rows path b)) = (rows.zipIdx.map (subNodes p path b)).flatten ++ pend w := by
  unfold pend
  rw [List.reverse_append, List.flatMap_append, ← List.map_reverse, List.reverse_reverse, ← List.flatMap_def]
  congr 1
  rw [List.flatMap_map]
  rw [List.flatMap_def, List.flatMap_def]
  congr 1
  refine List.ext_getElem (by simp) fun i h1 h2 => ?_
  simp at h1
  simp [subN, subNodes, List.getElem?_eq_getElem h1]
theorem nodes_pos {h : Hr} {path : List Nat} {b : Box} : 1 ≤ (h.nodes path b).length := by
  cases h with
  | fin => rw [Hr.nodes_fin]; simp
  | ask p rows => rw [Hr.nodes_ask]; simp
theorem flatMap_len {α β : Type} {f : α → List β} (h : ∀ x, 1 ≤ (f x).length) : ∀ {l : List α}, l.length ≤ (l.flatMap f).length
  | [] => by simp
  | a :: r => by
    have h1 := h a
    have h2 := flatMap_len h (l := r)
    rw [List.flatMap_cons, List.length_append, List.length_cons]
    omega
theorem pend_len {w : List (List Nat × Box × Hr)} : w.length ≤ (pend w).length := by
  have := flatMap_len (f := fun x : List Nat × Box × Hr => x.2.2.nodes x.1 x.2.1) (fun _ => nodes_pos) (l := w.reverse)
  rw [List.length_reverse] at this
  exact this
theorem subs_len {p : Nat} {path : List Nat} {b : Box} {rows : List (List Nat × Hr)} : rows.length ≤ ((rows.zipIdx.map (subNodes p path b)).flatten).length := by
  have := flatMap_len (f := subNodes p path b) (fun _ => nodes_pos) (l := rows.zipIdx)
  rw [List.length_zipIdx] at this
  rw [← List.flatMap_def]
  exact this
theorem nodes_many {h : Hr} : ∀ {b : Box} {path : List Nat}, HearOk b h → (h.nodes path b).length + 1 ≤ 2 * h.many := by
  induction h using Hr.ind with
  | h0 => intro b path _; rw [Hr.nodes_fin, Hr.many_fin]; simp
  | h1 p rows ih =>
    intro b path hok
    cases hok with
    | ask hp h2 _ _ hsub =>
      rw [Hr.nodes_ask, Hr.many_ask, List.length_cons, List.length_flatten, List.map_map]
      have key : ∀ (rs : List (List Nat × Hr)) (j : Nat), (∀ r ∈ rs, r ∈ rows) → ((rs.zipIdx j).map (List.length ∘ subNodes p path b)).sum + rs.length ≤ 2 * (rs.map fun r => r.2.many).sum := by
        intro rs
        induction rs with
        | nil => intro j _; simp
        | cons r rs ih2 =>
          intro j hr
          have h3 := ih2 (j + 1) fun x hx => hr x (List.mem_cons_of_mem _ hx)
          have hr0 := hr r (List.mem_cons_self ..)
          have h4 := ih r hr0 (b := b.set p r.1) (path := path ++ [j]) (hsub r hr0)
          have h5 : (subNodes p path b (r, j)).length = (r.2.nodes (path ++ [j]) (b.set p r.1)).length := rfl
          simp only [List.zipIdx_cons, List.map_cons, List.sum_cons, Function.comp_apply, List.length_cons, h5]
          omega
      have := key rows 0 fun r h => h
      omega
theorem law_nodes_e {b : Box} {h : Hr} (hok : HearOk b h) (hb : b.length ≤ 1000) (hm : h.many ≤ 1000) : c__law_nodes [⟨Box.d b, 0⟩, ⟨h.d, 0⟩] = .ok (⟨.lst ((h.nodes [] b).map nodeD), 1⟩, [⟨Box.d b, 0⟩, ⟨h.d, 0⟩]) := by
  have htot := nodes_many (path := []) hok
  obtain ⟨⟨found, w, c4, c5, c6, c7, c8, c9⟩, e, ⟨hI, _⟩, hD⟩ := while_rel (t := t__law_nodes_2) (body := b__law_nodes_3) (L := [])
    (fun s : List (List Nat × Box × Hr) × List (List Nat × Box × Hr) × Option Cell × Option Cell × Option Cell × Option Cell × Option Cell × Option Cell =>
      [some ⟨Box.d b, 0⟩, some ⟨h.d, 0⟩, some ⟨.lst (s.1.map nodeD), 1⟩, some ⟨.lst (s.2.1.map nodeD), 1⟩, s.2.2.1, s.2.2.2.1, s.2.2.2.2.1, s.2.2.2.2.2.1, s.2.2.2.2.2.2.1, s.2.2.2.2.2.2.2])
    (fun s => s.1 ++ pend s.2.1 = h.nodes [] b ∧ (∀ x ∈ s.2.1, HearOk x.2.1 x.2.2 ∧ x.1.length ≤ s.1.length ∧ x.2.1.length = b.length) ∧ fz0 s.2.2.1 ∧ fz0 s.2.2.2.1 ∧ fz0 s.2.2.2.2.1 ∧ fz0 s.2.2.2.2.2.2.1 ∧ fz0 s.2.2.2.2.2.2.2)
    (fun s => (pend s.2.1).length) (fun s => s.2.1 = []) (fun ⟨found, w, c4, c5, c6, c7, c8, c9⟩ ⟨hI, hw, h4, h5, h6, h8, h9⟩ => by
      simp only at hI hw h4 h5 h6 h8 h9 ⊢
      rcases List.eq_nil_or_concat w with rfl | ⟨w, x, rfl⟩
      · left
        refine ⟨?_, rfl⟩
        simp -implicitDefEqProofs [t__law_nodes_2]
      · right
        rw [List.concat_eq_append] at *
        obtain ⟨path, bx, node⟩ := x
        refine ⟨?_, ?_⟩
        · simp -implicitDefEqProofs [t__law_nodes_2]
        · have hx := hw (path, bx, node) (by simp)
          simp only at hx
          have hwl : (w ++ [(path, bx, node)]).map nodeD = w.map nodeD ++ [nodeD (path, bx, node)] := by simp
          rw [pend_snoc] at hI
          simp only at hI
          have hlen := congrArg List.length hI
          rw [List.length_append, List.length_append] at hlen
          have hfl : (found.map nodeD).length ≤ 10000 := by rw [List.length_map]; omega
          have er : D.tup [nD path, Box.d bx, node.d] = nodeD (path, bx, node) := rfl
          have hfm : found.map nodeD ++ [nodeD (path, bx, node)] = (found ++ [(path, bx, node)]).map nodeD := by simp
          rw [hwl, pend_snoc]
          simp only
          cases node with
          | fin =>
            rw [Hr.nodes_fin] at hI hlen
            refine ⟨(found ++ [(path, bx, .fin)], w, some ⟨nD path, 0⟩, some ⟨Box.d bx, 0⟩, some ⟨Hr.fin.d, 0⟩, c7, c8, c9), ?_, ⟨by simpa using hI, fun y hy => ?_, fz0_some, fz0_some, fz0_some, h8, h9⟩, ?_⟩
            · have ex : fIx [⟨Hr.fin.d, 0⟩, ⟨.int 0, 0⟩] = .ok ⟨.str "end", 0⟩ := by rw [Hr.d_fin]; exact ixT0
              have ee : fEq [⟨.str "end", 0⟩, ⟨.str "ask", 0⟩] = .ok ⟨.bl false, 0⟩ := f_eqS (by decide +kernel) (by decide +kernel)
              generalize hfd : Hr.fin.d = fd at ex
              simp (maxSteps := 1000000) -implicitDefEqProofs [b__law_nodes_3, fPop0_snoc, ex, ee, f_app hfl, nodeD, hfd]
            · obtain ⟨q1, q2, q3⟩ := hw y (by simp [hy])
              exact ⟨q1, by simp; omega, q3⟩
            · simp only
              rw [Hr.nodes_fin]
              simp
          | ask p rows =>
            cases hx.1 with
            | ask hp h2 _ _ hsub =>
              rw [Hr.nodes_ask] at hI hlen
              have hsl := subs_len (p := p) (path := path) (b := bx) (rows := rows)
              have hpl := pend_len (w := w)
              rw [List.length_cons] at hlen
              have hrl : rows.length + 1 ≤ (h.nodes [] b).length := by omega
              have hwl2 : w.length ≤ 2000 := by omega
              obtain ⟨c7', c8', c9', ef, g8, g9⟩ := law_nodes_for (found := (found ++ [(path, bx, Hr.ask p rows)]).map nodeD) (w := w) (c0 := some ⟨Box.d b, 0⟩) (c1 := some ⟨h.d, 0⟩) (c7 := c7) (path := path) (rows := rows) (L := []) hp (by omega) (by omega) (by omega) h8 h9 (by simp)
              refine ⟨(found ++ [(path, bx, .ask p rows)], w ++ (List.range rows.length).reverse.map (subN p rows path bx), some ⟨nD path, 0⟩, some ⟨Box.d bx, 0⟩, some ⟨(Hr.ask p rows).d, 0⟩, c7', c8', c9'), ?_, ⟨?_, fun y hy => ?_, fz0_some, fz0_some, fz0_some, g8, g9⟩, ?_⟩
              · have ex : fIx [⟨(Hr.ask p rows).d, 0⟩, ⟨.int 0, 0⟩] = .ok ⟨.str "ask", 0⟩ := by rw [Hr.d_ask]; exact ixT0
                have ex2 : fIx [⟨(Hr.ask p rows).d, 0⟩, ⟨.int 2, 0⟩] = .ok ⟨.tup (rows.map rowD), 0⟩ := by rw [Hr.d_ask]; exact ixT2
                have ee : fEq [⟨.str "ask", 0⟩, ⟨.str "ask", 0⟩] = .ok ⟨.bl true, 0⟩ := f_eqS (by decide +kernel) (by decide +kernel)
                obtain ⟨er1, er2⟩ := rg3_down (n := rows.length) (by omega)
                rw [List.map_append, List.map_append] at ef
                simp only [List.map_cons, List.map_nil, nodeD] at ef
                generalize hfd : (Hr.ask p rows).d = fd at ex ex2 ef
                simp only [List.map_reverse, List.map_map] at ef er2
                simp (maxSteps := 1000000) -implicitDefEqProofs [b__law_nodes_3, fPop0_snoc, ex, ex2, ee, f_app hfl, nodeD, hfd, mRange3, er1, er2, ef]
              · simp only
                rw [pend_sub]
                simpa using hI
              · simp only [List.mem_append, List.mem_map, List.mem_reverse, List.mem_range] at hy
                rcases hy with hy | ⟨k, hk, rfl⟩
                · obtain ⟨q1, q2, q3⟩ := hw y (by simp [hy])
                  exact ⟨q1, by simp; omega, q3⟩
                · have hrk : rows.getD k default ∈ rows := by simp [List.getElem?_eq_getElem hk]
                  refine ⟨hsub _ hrk, ?_, ?_⟩
                  · simp [subN]; omega
                  · simp [subN]; exact hx.2.2
              · simp only
                rw [pend_sub, Hr.nodes_ask]
                simp)
    100000 ([], [([], b, h)], none, none, none, none, none, none) ⟨by simp [pend], by simp; exact hok, fz0_none, fz0_none, fz0_none, fz0_none, fz0_none⟩ (by simp [pend]; omega)
  simp only at hI hD
  subst hD
  rw [show pend [] = [] from rfl, List.append_nil] at hI
  subst hI
  have ein : D.tup [.tup [], Box.d b, h.d] = nodeD ([], b, h) := rfl
  have etb : fTuple [⟨Box.d b, 0⟩] = .ok ⟨Box.d b, 0⟩ := rfl
  simp only [List.map_nil, List.map_cons] at e
  simp (maxSteps := 1000000) -implicitDefEqProofs [c__law_nodes, m__law_nodes, mWhile, etb, ein, e]
end S

namespace S
open Z PySem PySem.Spec PyProof.Rows L2
def Hr.isFin : Hr → Bool
  | .fin => true
  | _ => false
def Hr.leaves (h : Hr) (path : List Nat) (b : Box) : List (List Nat × Box) := ((h.nodes path b).filter fun x => x.2.2.isFin).map fun x => (x.1, x.2.1)
def leafD (x : List Nat × Box) : D := .tup [nD x.1, Box.d x.2]
theorem Hr.leaves_fin {path : List Nat} {b : Box} : Hr.fin.leaves path b = [(path, b)] := by
  unfold Hr.leaves
  rw [Hr.nodes_fin]
  rfl
def subLeaves (p : Nat) (path : List Nat) (b : Box) (x : (List Nat × Hr) × Nat) : List (List Nat × Box) := x.1.2.leaves (path ++ [x.2]) (b.set p x.1.1)
theorem Hr.leaves_ask {p : Nat} {rows : List (List Nat × Hr)} {path : List Nat} {b : Box} : (Hr.ask p rows).leaves path b = (rows.zipIdx.map (subLeaves p path b)).flatten := by
  unfold Hr.leaves
  rw [Hr.nodes_ask, List.filter_cons_of_neg (by simp [Hr.isFin]), List.filter_flatten, List.map_flatten, List.map_map, List.map_map]
  rfl
theorem Hr.leaves_len {h : Hr} : ∀ {path : List Nat} {b : Box}, (h.leaves path b).length = h.many := by
  induction h using Hr.ind with
  | h0 => intro path b; rw [Hr.leaves_fin, Hr.many_fin]; rfl
  | h1 p rows ih =>
    intro path b
    rw [Hr.leaves_ask, Hr.many_ask, List.length_flatten, List.map_map]
    congr 1
    refine List.ext_getElem (by simp) fun i h1 h2 => ?_
    simp at h1 h2
    simp only [List.getElem_map, List.getElem_zipIdx, Function.comp_apply]
    exact ih _ (List.getElem_mem _)
theorem law_leaves_e {b : Box} {h : Hr} (hok : HearOk b h) (hb : b.length ≤ 1000) (hm : h.many ≤ 1000) : c__law_leaves [⟨Box.d b, 0⟩, ⟨h.d, 0⟩] = .ok (⟨.lst ((h.leaves [] b).map leafD), 1⟩, [⟨Box.d b, 0⟩, ⟨h.d, 0⟩]) := by
  have en := law_nodes_e hok hb hm
  have hlen := nodes_many (path := []) hok
  have e := comp_f (it := ⟨(h.nodes [] b).map nodeD, none⟩) (g := gT 3 (gsCons (gN 2) (gsCons (gN 3) (gsCons (gN 4) gsNil)))) (tt := t__law_leaves_1) (me := e__law_leaves_2) (vs := [2, 3, 4]) (ρ := [some ⟨Box.d b, 0⟩, some ⟨h.d, 0⟩, none, none, none]) nodeD (fun x => x.2.2.isFin) (fun x => leafD (x.1, x.2.1)) (ds := h.nodes [] b) (fun x hx => by
    obtain ⟨path, bx, node⟩ := x
    cases node with
    | fin =>
      have ex : fIx [⟨Hr.fin.d, 0⟩, ⟨.int 0, 0⟩] = .ok ⟨.str "end", 0⟩ := by rw [Hr.d_fin]; exact ixT0
      have ee : fEq [⟨.str "end", 0⟩, ⟨.str "end", 0⟩] = .ok ⟨.bl true, 0⟩ := f_eqS (by decide +kernel) (by decide +kernel)
      generalize hfd : Hr.fin.d = fd at ex
      simp -implicitDefEqProofs [comp1, nodeD, leafD, hfd, t__law_leaves_1, e__law_leaves_2, ex, ee, Hr.isFin]
    | ask p rows =>
      have ex : fIx [⟨(Hr.ask p rows).d, 0⟩, ⟨.int 0, 0⟩] = .ok ⟨.str "ask", 0⟩ := by rw [Hr.d_ask]; exact ixT0
      have ee : fEq [⟨.str "ask", 0⟩, ⟨.str "end", 0⟩] = .ok ⟨.bl false, 0⟩ := f_eqS (by decide +kernel) (by decide +kernel)
      generalize hfd : (Hr.ask p rows).d = fd at ex
      simp -implicitDefEqProofs [comp1, nodeD, leafD, hfd, t__law_leaves_1, e__law_leaves_2, ex, ee, Hr.isFin])
  have e2 : ((h.nodes [] b).filter fun x => x.2.2.isFin).map (fun x => leafD (x.1, x.2.1)) = (h.leaves [] b).map leafD := by
    unfold Hr.leaves
    rw [List.map_map]
    rfl
  rw [e2] at e
  simp (maxSteps := 1000000) -implicitDefEqProofs [c__law_leaves, m__law_leaves, en, e, show (h.nodes [] b).length ≤ 16777216 by omega]
/-! a row's way -/
inductive Way : Hr → Row → List (Nat × List Nat) → List Nat → Prop
  | fin {row : Row} : Way .fin row [] []
  | ask {p k : Nat} {rows : List (List Nat × Hr)} {row : Row} {r : List Nat × Hr} {a : List (Nat × List Nat)} {q : List Nat} : rows[k]? = some r → row.getD p 0 ∈ r.1 → Way r.2 row a q → Way (.ask p rows) row ((p, r.1) :: a) (k :: q)
theorem Way.leaf {h : Hr} {row : Row} {a : List (Nat × List Nat)} {q : List Nat} (w : Way h row a q) : ∀ {path : List Nat} {b : Box}, ∃ bx, (path ++ q, bx) ∈ h.leaves path b := by
  induction w with
  | fin => intro path b; rw [Hr.leaves_fin]; exact ⟨b, by simp⟩
  | ask h1 h2 _ ih =>
    intro path b
    rename_i p k rows row r a q _
    obtain ⟨bx, hb⟩ := ih (path := path ++ [k]) (b := b.set p r.1)
    refine ⟨bx, ?_⟩
    rw [Hr.leaves_ask, List.mem_flatten]
    refine ⟨subLeaves p path b (r, k), List.mem_map_of_mem (List.mem_zipIdx_iff_getElem?.mpr h1), ?_⟩
    unfold subLeaves
    simpa using hb
theorem many_pos {h : Hr} : ∀ {b : Box}, HearOk b h → 1 ≤ h.many := by
  intro b hok
  have := nodes_many (path := []) hok
  have := nodes_pos (h := h) (path := []) (b := b)
  omega
theorem many_sub {p : Nat} {rows : List (List Nat × Hr)} {b : Box} (hok : HearOk b (.ask p rows)) {r : List Nat × Hr} (hr : r ∈ rows) : r.2.many < (Hr.ask p rows).many := by
  cases hok with
  | ask hp h2 _ _ hsub =>
    rw [Hr.many_ask]
    have key : ∀ rs : List (List Nat × Hr), (∀ x ∈ rs, x ∈ rows) → rs.length ≤ (rs.map fun x => x.2.many).sum ∧ ∀ x ∈ rs, x.2.many + rs.length ≤ (rs.map fun x => x.2.many).sum + 1 := by
      intro rs
      induction rs with
      | nil => intro _; simp
      | cons a rs ih =>
        intro hx
        obtain ⟨h3, h4⟩ := ih fun x hx2 => hx x (List.mem_cons_of_mem _ hx2)
        have h5 := many_pos (hsub a (hx a (List.mem_cons_self ..)))
        refine ⟨by simp; omega, fun x hxm => ?_⟩
        rcases List.mem_cons.mp hxm with rfl | hxm
        · simp; omega
        · have := h4 x hxm
          simp; omega
    have := (key rows fun _ h => h).2 r hr
    omega
def InBox (row : Row) (b : Box) : Prop := ∀ i, i < b.length → row.getD i 0 ∈ b.getD i []
theorem InBox.set {row : Row} {b : Box} {p : Nat} {q : List Nat} (h : InBox row b) (hq : row.getD p 0 ∈ q) : InBox row (b.set p q) := by
  intro i hi
  rw [List.length_set] at hi
  by_cases hip : i = p
  · subst hip
    simpa [List.getD_eq_getElem?_getD, hi] using hq
  · rw [getD_set_ne' hip]
    exact h i hi
def ansD (x : Nat × List Nat) : D := .tup [.int (x.1 : Int), nD x.2]
theorem head_filter {n : Nat} {f : Nat → Bool} (h : ∃ k, k < n ∧ f k = true) : ∃ k r, (List.range n).filter f = k :: r ∧ k < n ∧ f k = true := by
  cases e : (List.range n).filter f with
  | nil =>
    obtain ⟨k, hk, hf⟩ := h
    have : k ∈ (List.range n).filter f := List.mem_filter.mpr ⟨by simpa using hk, hf⟩
    rw [e] at this
    simp at this
  | cons k r =>
    have : k ∈ (List.range n).filter f := by rw [e]; simp
    rw [List.mem_filter, List.mem_range] at this
    exact ⟨k, r, rfl, this.1, this.2⟩
structure RunS where
  path : List Nat
  ans : List (Nat × List Nat)
  node : Hr
  box : Box
  c5 : Option Cell
  c6 : Option Cell
theorem law_run_e {b : Box} {h : Hr} {row : Row} (hok : HearOk b h) (hb : b.length ≤ 1000) (hm : h.many ≤ 1000) (hr : row.length = b.length) (hin : InBox row b) (hsz : ∀ q ∈ b, q.length ≤ 1000) :
    ∃ a q, c__law_run [⟨h.d, 0⟩, ⟨nD row, 0⟩] = .ok (⟨.tup [.tup (a.map ansD), nD q], 0⟩, [⟨h.d, 0⟩, ⟨nD row, 0⟩]) ∧ Way h row a q := by
  obtain ⟨s, e, ⟨hI1, hI2, hI3, hI4, hI5, hI6, hI7⟩, hD⟩ := while_rel (t := t__law_run_3) (body := b__law_run_4) (L := [])
    (fun s : RunS => [some ⟨h.d, 0⟩, some ⟨nD row, 0⟩, some ⟨nD s.path, 0⟩, some ⟨.lst (s.ans.map ansD), 1⟩, some ⟨s.node.d, 0⟩, s.c5, s.c6, none])
    (fun s => HearOk s.box s.node ∧ InBox row s.box ∧ s.box.length = b.length ∧ s.path.length + s.node.many ≤ 1000 ∧ s.ans.length + s.node.many ≤ 1000 ∧ (∀ a q, Way s.node row a q → Way h row (s.ans ++ a) (s.path ++ q)) ∧ fz0 s.c5)
    (fun s => s.node.many) (fun s => s.node = .fin) (fun ⟨path, ans, node, bx, c5, c6⟩ ⟨h1, h2, h3, h4, h5, h6, h7⟩ => by
      simp only at h1 h2 h3 h4 h5 h6 h7 ⊢
      cases node with
      | fin =>
        left
        refine ⟨?_, rfl⟩
        have ex : fIx [⟨Hr.fin.d, 0⟩, ⟨.int 0, 0⟩] = .ok ⟨.str "end", 0⟩ := by rw [Hr.d_fin]; exact ixT0
        have ee : fEq [⟨.str "end", 0⟩, ⟨.str "ask", 0⟩] = .ok ⟨.bl false, 0⟩ := f_eqS (by decide +kernel) (by decide +kernel)
        generalize hfd : Hr.fin.d = fd at ex
        simp -implicitDefEqProofs [t__law_run_3, ex, ee]
      | ask p rows =>
        right
        have hmp := many_pos h1
        have hms := fun {r} hr => many_sub h1 (r := r) hr
        cases h1 with
        | ask hp h8 h9 h10 h11 =>
          have ex0 : fIx [⟨(Hr.ask p rows).d, 0⟩, ⟨.int 0, 0⟩] = .ok ⟨.str "ask", 0⟩ := by rw [Hr.d_ask]; exact ixT0
          have ex1 : fIx [⟨(Hr.ask p rows).d, 0⟩, ⟨.int 1, 0⟩] = .ok ⟨.int (p : Int), 0⟩ := by rw [Hr.d_ask]; exact ixT1
          have ex2 : fIx [⟨(Hr.ask p rows).d, 0⟩, ⟨.int 2, 0⟩] = .ok ⟨.tup (rows.map rowD), 0⟩ := by rw [Hr.d_ask]; exact ixT2
          have ee : fEq [⟨.str "ask", 0⟩, ⟨.str "ask", 0⟩] = .ok ⟨.bl true, 0⟩ := f_eqS (by decide +kernel) (by decide +kernel)
          generalize hfd : (Hr.ask p rows).d = fd at ex0 ex1 ex2
          refine ⟨by simp -implicitDefEqProofs [t__law_run_3, ex0, ee], ?_⟩
          have hpr : p < row.length := by omega
          have exr : fIx [⟨nD row, 0⟩, ⟨.int (p : Int), 0⟩] = .ok ⟨.int (row.getD p 0 : Nat), 0⟩ := ixT (map_some hpr)
          generalize hwd : row.getD p 0 = word at exr
          have hmemw : word ∈ bx.getD p [] := hwd ▸ h2 p hp
          have hrl : rows.length ≤ 2000 := by
            have := nodes_many (path := []) (HearOk.ask hp h8 h9 h10 h11)
            rw [Hr.nodes_ask] at this
            have := subs_len (p := p) (path := []) (b := bx) (rows := rows)
            simp only [List.length_cons] at *
            omega
          obtain ⟨k, rr, ek, hk, hk2⟩ := head_filter (n := rows.length) (f := fun k => decide (word ∈ (rows.getD k default).1)) (by
            have := h10.mem_iff.mpr hmemw
            rw [List.mem_flatten] at this
            obtain ⟨z, hz, hwz⟩ := this
            obtain ⟨r, hr, rfl⟩ := List.mem_map.mp hz
            obtain ⟨k, hk, rfl⟩ := List.mem_iff_getElem.mp hr
            exact ⟨k, hk, by simp [List.getElem?_eq_getElem hk, hwz]⟩)
          have ec := comp_f (it := ⟨rgI rows.length, none⟩) (g := gN 7) (tt := t__law_run_1) (me := e__law_run_2) (vs := [7]) (ρ := [some ⟨h.d, 0⟩, some ⟨nD row, 0⟩, some ⟨nD path, 0⟩, some ⟨.lst (ans.map ansD), 1⟩, some ⟨fd, 0⟩, iC word, c6, none]) (fun (i : Nat) => D.int (i : Int)) (fun k => decide (word ∈ (rows.getD k default).1)) (fun (i : Nat) => D.int (i : Int)) (ds := List.range rows.length) (fun i hi => by
            have hi2 : i < rows.length := by simpa using hi
            have e3 : fIx [⟨.tup (rows.map rowD), 0⟩, ⟨.int (i : Int), 0⟩] = .ok ⟨rowD (rows.getD i default), 0⟩ := ixT (map_some hi2)
            have e4 : fIx [⟨rowD (rows.getD i default), 0⟩, ⟨.int 0, 0⟩] = .ok ⟨nD (rows.getD i default).1, 0⟩ := ixT0
            simp -implicitDefEqProofs [-List.getD_eq_getElem?_getD, comp1, t__law_run_1, e__law_run_2, ex2, e3, e4, f_inN]
            by_cases hw : word ∈ (rows.getD i default).1 <;> simp -implicitDefEqProofs [-List.getD_eq_getElem?_getD, hw])
          rw [ek, List.map_cons] at ec
          have hrk : rows.getD k default ∈ rows := by simp [List.getElem?_eq_getElem hk]
          have hgk : rows[k]? = some (rows.getD k default) := by simp [List.getElem?_eq_getElem hk]
          have e3 : fIx [⟨.tup (rows.map rowD), 0⟩, ⟨.int (k : Int), 0⟩] = .ok ⟨rowD (rows.getD k default), 0⟩ := ixT (map_some hk)
          have e4 : fIx [⟨rowD (rows.getD k default), 0⟩, ⟨.int 0, 0⟩] = .ok ⟨nD (rows.getD k default).1, 0⟩ := ixT0
          have e5 : fIx [⟨rowD (rows.getD k default), 0⟩, ⟨.int 1, 0⟩] = .ok ⟨(rows.getD k default).2.d, 0⟩ := ixT1
          simp only [decide_eq_true_eq] at hk2
          generalize rows.getD k default = r at *
          have hlt := hms hrk
          have e6 : ∀ {t : List D}, fIx [⟨.lst (.int (k : Int) :: t), 1⟩, ⟨.int 0, 0⟩] = .ok ⟨.int (k : Int), 0⟩ := fun {t} => ixL (i := 0) (by omega) rfl
          have eadd : fAdd [⟨nD path, 0⟩, ⟨.tup [.int (k : Int)], 0⟩] = .ok ⟨nD (path ++ [k]), 0⟩ := by
            have := f_addT (l := nL path) (m := [.int (k : Int)]) (k := 0) (k' := 0) (by rw [nL_len]; omega) (by simp)
            rw [nL_snoc] at this
            exact this
          refine ⟨⟨path ++ [k], ans ++ [(p, r.1)], r.2, bx.set p r.1, iC word, iC k⟩, ?_, ⟨h11 r hrk, h2.set (hwd ▸ hk2), by simpa using h3, by simp; omega, by simp; omega, fun a q hw => ?_, fz0_some⟩, hlt⟩
          · have ea : D.tup [.int (p : Int), nD r.1] = ansD (p, r.1) := rfl
            simp (maxSteps := 1000000) -implicitDefEqProofs [b__law_run_4, exr, ex1, ex2, rgB_nat (show rows.length ≤ 16777216 by omega), rgD_nat', show rows.length ≤ 16777216 by omega, ec, e6, e3, e4, e5, eadd, ea, f_app (show (ans.map ansD).length ≤ 10000 by simp; omega)]
          · have := h6 _ _ (.ask hgk (hwd ▸ hk2) hw)
            simpa using this)
    100000 ⟨[], [], h, b, none, none⟩ ⟨hok, hin, rfl, by simp; omega, by simp; omega, fun a q hw => by simpa using hw, fz0_none⟩ (by simp; omega)
  obtain ⟨path, ans, node, bx, c5, c6⟩ := s
  simp only at hI1 hI2 hI3 hI4 hI5 hI6 hI7 hD e
  subst hD
  have hw := hI6 [] [] .fin
  rw [List.append_nil, List.append_nil] at hw
  refine ⟨ans, path, ?_, hw⟩
  have e0 : nD [] = .tup [] := rfl
  rw [e0] at e
  simp only [List.map_nil] at e
  simp (maxSteps := 1000000) -implicitDefEqProofs [c__law_run, m__law_run, mWhile, e, show ans.length ≤ 16777216 by omega]
end S

namespace S
open Z PySem PySem.Spec PyProof.Rows L2
def Hr.at : Hr → List Nat → Option Hr
  | h, [] => some h
  | .fin, _ :: _ => none
  | .ask _ rows, k :: q => match rows[k]? with
    | some r => r.2.at q
    | none => none
def Hr.part : Hr → List Nat → List Nat → Int
  | .ask p rows, k :: q, k' :: q' => if k = k' then (match rows[k]? with
    | some r => r.2.part q q'
    | none => -1) else (p : Int)
  | _, _, _ => -1
theorem leaf_at {h : Hr} : ∀ {path : List Nat} {b : Box} {q : List Nat} {bx : Box}, (q, bx) ∈ h.leaves path b → ∃ z, q = path ++ z ∧ h.at z = some .fin ∧ bx.length = b.length := by
  induction h using Hr.ind with
  | h0 =>
    intro path b q bx hm
    rw [Hr.leaves_fin] at hm
    simp at hm
    exact ⟨[], by simp [hm], by unfold Hr.at; rfl, by rw [hm.2]⟩
  | h1 p rows ih =>
    intro path b q bx hm
    rw [Hr.leaves_ask, List.mem_flatten] at hm
    obtain ⟨l, hl, hq⟩ := hm
    obtain ⟨⟨r, k⟩, hk, rfl⟩ := List.mem_map.mp hl
    have hk2 := List.mem_zipIdx_iff_getElem?.mp hk
    simp only at hk2
    obtain ⟨z, e1, e2, e3⟩ := ih r (List.mem_of_getElem? hk2) hq
    refine ⟨k :: z, by simp [e1], ?_, by simpa using e3⟩
    unfold Hr.at
    rw [hk2]
    exact e2
theorem leaf_at0 {h : Hr} {b : Box} {q : List Nat} {bx : Box} (hm : (q, bx) ∈ h.leaves [] b) : h.at q = some .fin ∧ bx.length = b.length := by
  obtain ⟨z, e1, e2, e3⟩ := leaf_at hm
  rw [List.nil_append] at e1
  subst e1
  exact ⟨e2, e3⟩
structure PartS where
  node : Hr
  q1 : List Nat
  q2 : List Nat
  c4 : Option Cell
theorem law_parting_e {h : Hr} {q1 q2 : List Nat} (h1 : h.at q1 = some .fin) (h2 : h.at q2 = some .fin) (hl : q1.length ≤ 10000) :
    c__law_parting_person [⟨h.d, 0⟩, ⟨nD q1, 0⟩, ⟨nD q2, 0⟩] = .ok (⟨.int (h.part q1 q2), 0⟩, [⟨h.d, 0⟩, ⟨nD q1, 0⟩, ⟨nD q2, 0⟩]) := by
  obtain ⟨m, hm⟩ : ∃ m, min q1.length q2.length = m := ⟨_, rfl⟩
  have emin : fMin [⟨.int (q1.length : Int), 0⟩, ⟨.int (q2.length : Int), 0⟩] = .ok ⟨.int (m : Int), 0⟩ := by
    have : (if (q2.length : Int) < q1.length then (q2.length : Int) else q1.length) = (m : Int) := by split <;> omega
    rw [f_min2, ← this]
  have hmn : m ≤ 16777216 := by omega
  have key := for_ret (it := ⟨rgI m, none⟩) (g := gN 4) (body := b__law_parting_person_1) (L := []) (ds := List.range m) (s := (⟨h, q1, q2, none⟩ : PartS)) (fun (i : Nat) => D.int (i : Int))
    (fun s : PartS => [some ⟨h.d, 0⟩, some ⟨nD q1, 0⟩, some ⟨nD q2, 0⟩, some ⟨s.node.d, 0⟩, s.c4])
    (fun r s => ∃ k, r = (List.range m).drop k ∧ k ≤ m ∧ s.q1 = q1.drop k ∧ s.q2 = q2.drop k ∧ s.node.at s.q1 = some .fin ∧ s.node.at s.q2 = some .fin ∧ h.part q1 q2 = s.node.part s.q1 s.q2)
    (fun c ρ => c = ⟨.int (h.part q1 q2), 0⟩ ∧ ∃ x y, ρ = [some ⟨h.d, 0⟩, some ⟨nD q1, 0⟩, some ⟨nD q2, 0⟩, x, y]) ⟨0, by simp, by omega, rfl, rfl, h1, h2, rfl⟩ (fun a r ⟨node, p1, p2, c4⟩ ⟨k, hk, hkl, e1, e2, e3, e4, e5⟩ => by
      simp only at e1 e2 e3 e4 e5 ⊢
      have hlt : k < (List.range m).length := by
        have := congrArg List.length hk
        simp at this ⊢
        omega
      rw [List.drop_eq_getElem_cons hlt] at hk
      injection hk with ha hr
      rw [List.getElem_range] at ha
      subst ha
      rw [List.length_range] at hlt
      have hk1 : a < q1.length := by omega
      have hk2 : a < q2.length := by omega
      rw [List.drop_eq_getElem_cons hk1] at e1
      rw [List.drop_eq_getElem_cons hk2] at e2
      subst e1 e2
      have x1 : fIx [⟨nD q1, 0⟩, ⟨.int (a : Int), 0⟩] = .ok ⟨.int ((q1[a] : Nat) : Int), 0⟩ := ixT (by simp [nL, hk1])
      have x2 : fIx [⟨nD q2, 0⟩, ⟨.int (a : Int), 0⟩] = .ok ⟨.int ((q2[a] : Nat) : Int), 0⟩ := ixT (by simp [nL, hk2])
      cases node with
      | fin => unfold Hr.at at e3; cases e3
      | ask p rows =>
        have ex1 : fIx [⟨(Hr.ask p rows).d, 0⟩, ⟨.int 1, 0⟩] = .ok ⟨.int (p : Int), 0⟩ := by rw [Hr.d_ask]; exact ixT1
        have ex2 : fIx [⟨(Hr.ask p rows).d, 0⟩, ⟨.int 2, 0⟩] = .ok ⟨.tup (rows.map rowD), 0⟩ := by rw [Hr.d_ask]; exact ixT2
        generalize hfd : (Hr.ask p rows).d = fd at ex1 ex2
        have en : ∀ {x y : Nat}, fNe [⟨.int (x : Int), 0⟩, ⟨.int (y : Int), 0⟩] = .ok ⟨.bl (!decide (x = y)), 0⟩ := fun {x y} => by
          have := f_neP (x := .int (x : Int)) (y := .int (y : Int)) (k := 0) (k' := 0) (by simp [D.pl]) (by simp [D.pl])
          rw [this]
          have : (D.int (x : Int) = D.int (y : Int)) ↔ x = y := by simp only [D.int.injEq]; omega
          simp only [this]
        by_cases hq : q1[a] = q2[a]
        · left
          unfold Hr.at at e3 e4
          cases hr1 : rows[q1[a]]? with
          | none => rw [hr1] at e3; cases e3
          | some r1 =>
            rw [← hq] at e4
            rw [hr1] at e3 e4
            simp only at e3 e4
            refine ⟨⟨r1.2, q1.drop (a + 1), q2.drop (a + 1), iC a⟩, ?_, a + 1, hr, by omega, rfl, rfl, e3, e4, ?_⟩
            · have ex3 : fIx [⟨.tup (rows.map rowD), 0⟩, ⟨.int ((q1[a] : Nat) : Int), 0⟩] = .ok ⟨rowD r1, 0⟩ := ixT (by rw [List.getElem?_map, hr1]; rfl)
              have ex4 : fIx [⟨rowD r1, 0⟩, ⟨.int 1, 0⟩] = .ok ⟨r1.2.d, 0⟩ := ixT1
              rw [← hq] at x2
              simp -implicitDefEqProofs [step1, b__law_parting_person_1, x1, x2, en, ex2, ex3, ex4]
            · rw [e5]
              conv => lhs; unfold Hr.part
              rw [if_pos hq, hr1]
        · right
          refine ⟨⟨.int (p : Int), 0⟩, [some ⟨h.d, 0⟩, some ⟨nD q1, 0⟩, some ⟨nD q2, 0⟩, some ⟨fd, 0⟩, iC a], ?_, ?_, _, _, rfl⟩
          · simp -implicitDefEqProofs [step1, b__law_parting_person_1, x1, x2, en, hq, ex1]
          · rw [e5]
            unfold Hr.part
            rw [if_neg hq])
  have el : ∀ q : List Nat, fLen [⟨nD q, 0⟩] = .ok ⟨.int (q.length : Int), 0⟩ := fun q => by
    have : fLen [⟨.tup (nL q), 0⟩] = .ok ⟨.int (q.length : Int), 0⟩ := by simp
    exact this
  have erb := rgB_nat hmn
  have erd := rgD_nat' (n := m)
  rcases key with ⟨⟨node, p1, p2, c4⟩, e, k, hk, hkl, e1, e2, e3, e4, e5⟩ | ⟨c, ρ, e, rfl, x, y, rfl⟩
  · have hk2 : k = m := by
      have := congrArg List.length hk
      simp at this
      omega
    have hp : h.part q1 q2 = -1 := by
      rw [e5, e1, e2, hk2]
      simp only at e1 e2 e3 e4 e5
      by_cases hq : q1.length ≤ q2.length
      · simp only
        rw [List.drop_of_length_le (show q1.length ≤ m by omega)]
        cases node <;> simp [Hr.part]
      · simp only
        rw [List.drop_of_length_le (show q2.length ≤ m by omega)]
        cases node with
        | fin => simp [Hr.part]
        | ask p rows => cases (List.drop m q1) <;> simp [Hr.part]
    rw [hp]
    simp (maxSteps := 1000000) -implicitDefEqProofs [c__law_parting_person, m__law_parting_person, el, emin, erb, erd, e]
  · simp (maxSteps := 1000000) -implicitDefEqProofs [c__law_parting_person, m__law_parting_person, el, emin, erb, erd, e]
end S

namespace S
open Z PySem PySem.Spec PyProof.Rows L2
theorem setD_n {l : List D} {n : Nat} {d : D} (h : n < l.length) : setD l (n : Int) d = some (l.set n d) := by
  unfold setD
  rw [ixN_nat' h]
  rfl
def lz : Option Int → Option Cell
  | none => some ⟨.non, 0⟩
  | some i => some ⟨.int i, 0⟩
structure LvOk (h : Hr) (nb : Nat) (lv : List (List Nat × Box)) : Prop where
  at_ : ∀ x ∈ lv, h.at x.1 = some .fin
  box : ∀ x ∈ lv, x.2.length = nb ∧ x.1.length ≤ 1000 ∧ ∀ q ∈ x.2, q.length ≤ 1000
  len : lv.length ≤ 1000
section
variable {h : Hr} {nb p kd : Nat} {lv : List (List Nat × Box)} {w : List Nat} {sl : Int} {l : List D} {vs : List Int} {c8 c9 c10 c11 c12 c13 c14 c15 c16 : Option Cell}
abbrev hvE (h : Hr) (lv : List (List Nat × Box)) (p kd : Nat) (w : List Nat) (sl : Int) (l : List D) (vs : List Int) (c9 c10 c11 c12 c13 c14 c15 c16 : Option Cell) : Z.Env :=
  [some ⟨.lst l, 1⟩, some ⟨h.d, 0⟩, some ⟨.lst (lv.map leafD), 1⟩, iC p, iC kd, some ⟨nD w, 0⟩, some ⟨.int sl, 0⟩, some ⟨.lst (vs.map D.int), 1⟩, none, c9, c10, c11, c12, c13, c14, c15, c16, none, none]
theorem box_at {b : Box} {i : Nat} {k k' : Nat} (hi : i < b.length) : fIx [⟨Box.d b, k⟩, ⟨.int (i : Int), k'⟩] = .ok ⟨nD (b.getD i []), 0⟩ := ixT (map_some hi)
theorem getD_mem' {b : Box} {i : Nat} (hi : i < b.length) : b.getD i [] ∈ b := by simp [List.getElem?_eq_getElem hi]
theorem hv_met {bx ot : Box} (hb : ∀ o ∈ w, o < bx.length ∧ o < ot.length) (hs : ∀ q ∈ bx, q.length ≤ 1000) :
    ∃ met : List Nat, loopC ⟨nL w, none⟩ (gN 17) t__law_heard_values_5 e__law_heard_values_6 [17] (nL w) (hvE h lv p kd w sl l vs c9 c10 (some ⟨Box.d bx, 0⟩) c12 c13 c14 (some ⟨Box.d ot, 0⟩) c16) = .ok (nL met, hvE h lv p kd w sl l vs c9 c10 (some ⟨Box.d bx, 0⟩) c12 c13 c14 (some ⟨Box.d ot, 0⟩) c16) := by
  refine ⟨w.filter fun o => ((bx.getD o []).filter fun x => decide (x ∈ ot.getD o [])).isEmpty, comp_f (fun (i : Nat) => D.int (i : Int)) _ (fun (i : Nat) => D.int (i : Int)) fun o ho => ?_⟩
  obtain ⟨h1, h2⟩ := hb o ho
  have e := comp_f (it := ⟨nL (bx.getD o []), none⟩) (g := gN 18) (tt := t__law_heard_values_3) (me := e__law_heard_values_4) (vs := [18]) (ρ := [some ⟨.lst l, 1⟩, some ⟨h.d, 0⟩, some ⟨.lst (lv.map leafD), 1⟩, iC p, iC kd, some ⟨nD w, 0⟩, some ⟨.int sl, 0⟩, some ⟨.lst (vs.map D.int), 1⟩, none, c9, c10, some ⟨Box.d bx, 0⟩, c12, c13, c14, some ⟨Box.d ot, 0⟩, c16, iC o, none]) (fun (i : Nat) => D.int (i : Int)) (fun x => decide (x ∈ ot.getD o [])) (fun (i : Nat) => D.int (i : Int)) (ds := bx.getD o []) (fun x hx => by
    simp -implicitDefEqProofs [-List.getD_eq_getElem?_getD, comp1, t__law_heard_values_3, e__law_heard_values_4, box_at h2, f_inN]
    by_cases hw : x ∈ ot.getD o [] <;> simp -implicitDefEqProofs [-List.getD_eq_getElem?_getD, hw])
  have e0 : (bx.getD o []).map (fun (i : Nat) => D.int (i : Int)) = nL (bx.getD o []) := rfl
  have ei : itemsOf (nD (bx.getD o [])) = some (nL (bx.getD o [])) := rfl
  rw [e0] at e
  have hl := hs _ (getD_mem' h1)
  by_cases hz : (bx.getD o []).filter (fun x => decide (x ∈ ot.getD o [])) = []
  · rw [hz] at e
    simp only [List.map_nil] at e
    simp (maxSteps := 1000000) -implicitDefEqProofs [-List.getD_eq_getElem?_getD, comp1, t__law_heard_values_5, e__law_heard_values_6, box_at h1, ei, show (bx.getD o []).length ≤ 16777216 by omega, e, hz]
  · have hz2 : ((bx.getD o []).filter (fun x => decide (x ∈ ot.getD o []))).isEmpty = false := by simpa using hz
    generalize (bx.getD o []).filter (fun x => decide (x ∈ ot.getD o [])) = fl at *
    obtain ⟨a, r, rfl⟩ : ∃ a r, fl = a :: r := by
      cases fl with
      | nil => exact absurd rfl hz
      | cons a r => exact ⟨a, r, rfl⟩
    simp only [List.map_cons] at e
    simp (maxSteps := 1000000) -implicitDefEqProofs [-List.getD_eq_getElem?_getD, comp1, t__law_heard_values_5, e__law_heard_values_6, box_at h1, ei, show (bx.getD o []).length ≤ 16777216 by omega, e]
theorem leaf_ix {k : Nat} {j : Nat} (hk : k ≤ 1) {x : List Nat × Box} (e : lv[j]? = some x) : fIx [⟨.lst (lv.map leafD), k⟩, ⟨.int (j : Int), 0⟩] = .ok ⟨.tup [nD x.1, Box.d x.2], 0⟩ := ixL hk (by rw [List.getElem?_map, e]; rfl)
theorem vals_ix {j : Nat} {v : Int} (e : vs[j]? = some v) : fIx [⟨.lst (vs.map D.int), 1⟩, ⟨.int (j : Int), 0⟩] = .ok ⟨.int v, 0⟩ := ixL (by omega) (by rw [List.getElem?_map, e]; rfl)
def Low (lv : List (List Nat × Box)) (p kd : Nat) (vs : List Int) : Prop := ∀ (j : Nat) (x : List Nat × Box) (v : Int), lv[j]? = some x → kd ∈ x.2.getD p [] → vs[j]? = some v → -1 ≤ v ∧ v ≤ 4
theorem hv_least {bx : Box} {path : List Nat} (hlv : LvOk h nb lv) (hp : p < nb) (hw : ∀ o ∈ w, o < nb) (hbx : bx.length = nb) (hbs : ∀ q ∈ bx, q.length ≤ 1000) (hpa : h.at path = some .fin) (hpl : path.length ≤ 1000) (hwl : w.length ≤ 1000) (hvs : vs.length = lv.length) (hlow : Low lv p kd vs) :
    ∃ (least : Option Int) (c13' c14' c15' c16' : Option Cell), loopF ⟨rgI lv.length, none⟩ (gN 13) b__law_heard_values_7 [0, 2] (rgI lv.length) (hvE h lv p kd w sl l vs c9 (some ⟨nD path, 0⟩) (some ⟨Box.d bx, 0⟩) (some ⟨.non, 0⟩) c13 c14 c15 c16) =
      .ok (.next, hvE h lv p kd w sl l vs c9 (some ⟨nD path, 0⟩) (some ⟨Box.d bx, 0⟩) (lz least) c13' c14' c15' c16') ∧ ∀ v, least = some v → -1 ≤ v ∧ v ≤ 4 := by
  obtain ⟨⟨least, c13', c14', c15', c16'⟩, e, h2⟩ := for_rel (it := ⟨rgI lv.length, none⟩) (g := gN 13) (body := b__law_heard_values_7) (L := [0, 2]) (ds := List.range lv.length) (s := (none, c13, c14, c15, c16)) (fun (i : Nat) => D.int (i : Int))
    (fun s : Option Int × Option Cell × Option Cell × Option Cell × Option Cell => hvE h lv p kd w sl l vs c9 (some ⟨nD path, 0⟩) (some ⟨Box.d bx, 0⟩) (lz s.1) s.2.1 s.2.2.1 s.2.2.2.1 s.2.2.2.2)
    (fun r s => (∀ j ∈ r, j < lv.length) ∧ ∀ v, s.1 = some v → -1 ≤ v ∧ v ≤ 4) ⟨fun j hj => by simpa using hj, fun v hv => by cases hv⟩ (fun j r ⟨least, a13, a14, a15, a16⟩ ⟨hj, hle⟩ => by
      simp only at hle ⊢
      have hj1 := hj j (List.mem_cons_self ..)
      have hjr : ∀ i ∈ r, i < lv.length := fun i hi => hj i (List.mem_cons_of_mem _ hi)
      have ej : lv[j]? = some lv[j] := List.getElem?_eq_getElem hj1
      have hx := hlv.box _ (List.getElem_mem hj1)
      have hat := hlv.at_ _ (List.getElem_mem hj1)
      have hvj : j < vs.length := by omega
      have ev : vs[j]? = some vs[j] := List.getElem?_eq_getElem hvj
      have eix := leaf_ix (k := 1) (by omega) ej
      generalize lv[j] = x at *
      obtain ⟨way, ot⟩ := x
      simp only at hx hat eix
      obtain ⟨met, em⟩ := hv_met (h := h) (lv := lv) (p := p) (kd := kd) (w := w) (sl := sl) (l := l) (vs := vs) (c9 := c9) (c10 := some ⟨nD path, 0⟩) (c12 := lz least) (c13 := iC j) (c14 := some ⟨nD way, 0⟩) (c16 := a16) (bx := bx) (ot := ot) (fun o ho => by have := hw o ho; omega) hbs
      have ein := f_inN (i := kd) (l := ot.getD p []) (k := 0) (k' := 0) (neg := false)
      have eb := box_at (b := ot) (i := p) (k := 0) (k' := 0) (by omega)
      have ep := law_parting_e hpa hat (by omega)
      have evx := vals_ix ev
      have ewl : (nL w).length ≤ 16777216 := by rw [nL_len]; omega
      have eiw : itemsOf (nD w) = some (nL w) := rfl
      unfold hvE at em ⊢
      by_cases hk : kd ∈ ot.getD p []
      · cases met with
        | nil =>
          rw [show nL [] = [] from rfl] at em
          by_cases hpp : h.part path way = (p : Int)
          · have hlo := hlow j _ _ ej hk ev
            cases least with
            | none =>
              refine ⟨(some vs[j], iC j, some ⟨nD way, 0⟩, some ⟨Box.d ot, 0⟩, some ⟨.lst [], 1⟩), ?_, hjr, fun v hv => by cases hv; exact hlo⟩
              rw [lz] at em
              simp (maxSteps := 1000000) -implicitDefEqProofs [-List.getD_eq_getElem?_getD, step1, b__law_heard_values_7, eix, eiw, show w.length ≤ 16777216 by omega, em, eb, ein, hk, ep, hpp, evx, lz]
            | some v0 =>
              rw [lz] at em
              by_cases hv : vs[j] < v0
              · refine ⟨(some vs[j], iC j, some ⟨nD way, 0⟩, some ⟨Box.d ot, 0⟩, some ⟨.lst [], 1⟩), ?_, hjr, fun v hv => by cases hv; exact hlo⟩
                simp (maxSteps := 1000000) -implicitDefEqProofs [-List.getD_eq_getElem?_getD, step1, b__law_heard_values_7, eix, eiw, show w.length ≤ 16777216 by omega, em, eb, ein, hk, ep, hpp, evx, hv, lz]
              · refine ⟨(some v0, iC j, some ⟨nD way, 0⟩, some ⟨Box.d ot, 0⟩, some ⟨.lst [], 1⟩), ?_, hjr, hle⟩
                simp (maxSteps := 1000000) -implicitDefEqProofs [-List.getD_eq_getElem?_getD, step1, b__law_heard_values_7, eix, eiw, show w.length ≤ 16777216 by omega, em, eb, ein, hk, ep, hpp, evx, hv, lz]
          · refine ⟨(least, iC j, some ⟨nD way, 0⟩, some ⟨Box.d ot, 0⟩, some ⟨.lst [], 1⟩), ?_, hjr, hle⟩
            simp (maxSteps := 1000000) -implicitDefEqProofs [-List.getD_eq_getElem?_getD, step1, b__law_heard_values_7, eix, eiw, show w.length ≤ 16777216 by omega, em, eb, ein, hk, ep, hpp]
        | cons a t =>
          refine ⟨(least, iC j, some ⟨nD way, 0⟩, some ⟨Box.d ot, 0⟩, some ⟨.lst (nL (a :: t)), 1⟩), ?_, hjr, hle⟩
          have hne : (nL (a :: t)).isEmpty = false := rfl
          simp (maxSteps := 1000000) -implicitDefEqProofs [-List.getD_eq_getElem?_getD, step1, b__law_heard_values_7, eix, eiw, show w.length ≤ 16777216 by omega, em, eb, ein, hk, hne]
      · refine ⟨(least, iC j, some ⟨nD way, 0⟩, some ⟨Box.d ot, 0⟩, some ⟨.lst (nL met), 1⟩), ?_, hjr, hle⟩
        simp (maxSteps := 1000000) -implicitDefEqProofs [-List.getD_eq_getElem?_getD, step1, b__law_heard_values_7, eix, eiw, show w.length ≤ 16777216 by omega, em, eb, ein, hk])
  exact ⟨least, c13', c14', c15', c16', e, h2.2⟩
theorem vals_set {j : Nat} {v : Int} (hj : j < vs.length) : setD (vs.map D.int) (j : Int) (.int v) = some ((vs.set j v).map D.int) := by
  rw [setD_n (by simpa using hj), List.map_set]
theorem hv_first (hlv : LvOk h nb lv) (hp : p < nb) (hd : DSl l) (hvs : vs.length = lv.length) (hv0 : ∀ v ∈ vs, -1 ≤ v ∧ v ≤ 4) :
    ∃ (l' : List D) (vs' : List Int) (c9' : Option Cell), loopF ⟨rgI lv.length, none⟩ (gN 9) b__law_heard_values_2 [0, 2] (rgI lv.length) (hvE h lv p kd w sl l vs c9 c10 c11 c12 c13 c14 c15 c16) = .ok (.next, hvE h lv p kd w sl l' vs' c9' c10 c11 c12 c13 c14 c15 c16) ∧
      DSl l' ∧ vs'.length = lv.length ∧ ∀ v ∈ vs', -1 ≤ v ∧ v ≤ 4 := by
  obtain ⟨⟨l', vs', c9'⟩, e, _, h1, h2, h3⟩ := for_rel (it := ⟨rgI lv.length, none⟩) (g := gN 9) (body := b__law_heard_values_2) (L := [0, 2]) (ds := List.range lv.length) (s := (l, vs, c9)) (fun (i : Nat) => D.int (i : Int))
    (fun s : List D × List Int × Option Cell => hvE h lv p kd w sl s.1 s.2.1 s.2.2 c10 c11 c12 c13 c14 c15 c16)
    (fun r s => (∀ j ∈ r, j < lv.length) ∧ DSl s.1 ∧ s.2.1.length = lv.length ∧ ∀ v ∈ s.2.1, -1 ≤ v ∧ v ≤ 4) ⟨fun j hj => by simpa using hj, hd, hvs, hv0⟩ (fun j r ⟨l, vs, a9⟩ ⟨hj, hd, hvs, hv0⟩ => by
      simp only at hd hvs hv0 ⊢
      have hj1 := hj j (List.mem_cons_self ..)
      have hjr : ∀ i ∈ r, i < lv.length := fun i hi => hj i (List.mem_cons_of_mem _ hi)
      have ej : lv[j]? = some lv[j] := List.getElem?_eq_getElem hj1
      have hx := hlv.box _ (List.getElem_mem hj1)
      have eix := leaf_ix (k := 1) (by omega) ej
      generalize lv[j] = x at *
      obtain ⟨way, ot⟩ := x
      simp only at hx eix
      have eix2 : fIx [⟨.tup [nD way, Box.d ot], 0⟩, ⟨.int 1, 0⟩] = .ok ⟨Box.d ot, 0⟩ := ixT1
      have ein := f_inN (i := kd) (l := ot.getD p []) (k := 0) (k' := 0) (neg := false)
      have eb := box_at (b := ot) (i := p) (k := 0) (k' := 0) (by omega)
      unfold hvE
      by_cases hk : kd ∈ ot.getD p []
      · obtain ⟨n, l2, e1, h1, hn⟩ := draw_e (m := 6) hd (by decide) (by decide)
        refine ⟨(l2, vs.set j ((n : Int) - 1), iC j), ?_, hjr, h1, by simpa using hvs, fun v hv => ?_⟩
        · have es := vals_set (vs := vs) (j := j) (v := (n : Int) - 1) (by omega)
          simp (maxSteps := 1000000) -implicitDefEqProofs [-List.getD_eq_getElem?_getD, step1, b__law_heard_values_2, eix, eix2, eb, ein, hk, e1, es]
        · rcases List.mem_or_eq_of_mem_set hv with hv | rfl
          · exact hv0 v hv
          · omega
      · refine ⟨(l, vs, iC j), ?_, hjr, hd, hvs, hv0⟩
        simp (maxSteps := 1000000) -implicitDefEqProofs [-List.getD_eq_getElem?_getD, step1, b__law_heard_values_2, eix, eix2, eb, ein, hk])
  exact ⟨l', vs', c9', e, h1, h2, h3⟩
theorem hv_second (hlv : LvOk h nb lv) (hp : p < nb) (hw : ∀ o ∈ w, o < nb) (hwl : w.length ≤ 1000) (hs0 : 0 ≤ sl) (hs3 : sl ≤ 3) (hd : DSl l) (hvs : vs.length = lv.length) (hv0 : ∀ v ∈ vs, -1 ≤ v ∧ v ≤ 4) :
    ∃ (l' : List D) (vs' : List Int) (c9' c10' c11' c12' c13' c14' c15' c16' : Option Cell), loopF ⟨rgI lv.length, none⟩ (gN 9) b__law_heard_values_8 [0, 2] (rgI lv.length) (hvE h lv p kd w sl l vs c9 c10 c11 c12 c13 c14 c15 c16) = .ok (.next, hvE h lv p kd w sl l' vs' c9' c10' c11' c12' c13' c14' c15' c16') ∧
      DSl l' ∧ vs'.length = lv.length ∧ ∀ v ∈ vs', -10 ≤ v ∧ v ≤ 10 := by
  obtain ⟨⟨l', vs', c9', c10', c11', c12', c13', c14', c15', c16'⟩, e, _, h1, h2, _, h3⟩ := for_rel (it := ⟨rgI lv.length, none⟩) (g := gN 9) (body := b__law_heard_values_8) (L := [0, 2]) (ds := List.range lv.length) (s := (l, vs, c9, c10, c11, c12, c13, c14, c15, c16)) (fun (i : Nat) => D.int (i : Int))
    (fun s : List D × List Int × Option Cell × Option Cell × Option Cell × Option Cell × Option Cell × Option Cell × Option Cell × Option Cell => hvE h lv p kd w sl s.1 s.2.1 s.2.2.1 s.2.2.2.1 s.2.2.2.2.1 s.2.2.2.2.2.1 s.2.2.2.2.2.2.1 s.2.2.2.2.2.2.2.1 s.2.2.2.2.2.2.2.2.1 s.2.2.2.2.2.2.2.2.2)
    (fun r s => (∀ j ∈ r, j < lv.length) ∧ DSl s.1 ∧ s.2.1.length = lv.length ∧ Low lv p kd s.2.1 ∧ ∀ v ∈ s.2.1, -10 ≤ v ∧ v ≤ 10) ⟨fun j hj => by simpa using hj, hd, hvs, fun j x v _ _ hv => hv0 v (List.mem_of_getElem? hv), fun v hv => by have := hv0 v hv; omega⟩ (fun j r ⟨l, vs, a9, a10, a11, a12, a13, a14, a15, a16⟩ ⟨hj, hd, hvs, hlow, hv0⟩ => by
      simp only at hd hvs hlow hv0 ⊢
      have hj1 := hj j (List.mem_cons_self ..)
      have hjr : ∀ i ∈ r, i < lv.length := fun i hi => hj i (List.mem_cons_of_mem _ hi)
      have ej : lv[j]? = some lv[j] := List.getElem?_eq_getElem hj1
      have hx := hlv.box _ (List.getElem_mem hj1)
      have hat := hlv.at_ _ (List.getElem_mem hj1)
      have eix := leaf_ix (k := 1) (by omega) ej
      generalize lv[j] = x at *
      obtain ⟨way, ot⟩ := x
      simp only at hx hat eix
      have ein := f_inN (i := kd) (l := ot.getD p []) (k := 0) (k' := 0) (neg := true)
      have eb := box_at (b := ot) (i := p) (k := 0) (k' := 0) (by omega)
      by_cases hk : kd ∈ ot.getD p []
      · refine ⟨(l, vs, iC j, some ⟨nD way, 0⟩, some ⟨Box.d ot, 0⟩, a12, a13, a14, a15, a16), ?_, hjr, hd, hvs, hlow, hv0⟩
        unfold hvE
        simp (maxSteps := 1000000) -implicitDefEqProofs [-List.getD_eq_getElem?_getD, step1, b__law_heard_values_8, eix, eb, ein, hk]
      · obtain ⟨least, b13, b14, b15, b16, el, hle⟩ := hv_least (h := h) (lv := lv) (p := p) (kd := kd) (w := w) (sl := sl) (l := l) (vs := vs) (c9 := iC j) (c13 := a13) (c14 := a14) (c15 := a15) (c16 := a16) (bx := ot) (path := way) hlv hp hw hx.1 hx.2.2 hat hx.2.1 hwl hvs hlow
        have elen : fLen [⟨.lst (lv.map leafD), 1⟩] = .ok ⟨.int (lv.length : Int), 0⟩ := by simp
        have hln := hlv.len
        have erb := rgB_nat (show lv.length ≤ 16777216 by omega)
        have fin : ∀ (v : Int), -1 ≤ v → v ≤ 4 → ∀ (n : Nat), n < 4 → Low lv p kd (vs.set j (v + sl - (if (n : Int) - 1 > 0 then (n : Int) - 1 else 0))) ∧ ∀ u ∈ vs.set j (v + sl - (if (n : Int) - 1 > 0 then (n : Int) - 1 else 0)), -10 ≤ u ∧ u ≤ 10 := fun v h1 h2 n hn => by
          refine ⟨fun i x u hi hki hu => ?_, fun u hu => ?_⟩
          · by_cases hij : j = i
            · subst hij
              rw [ej] at hi
              cases hi
              exact absurd hki hk
            · rw [List.getElem?_set_ne hij] at hu
              exact hlow i x u hi hki hu
          · rcases List.mem_or_eq_of_mem_set hu with hu | rfl
            · exact hv0 u hu
            · split <;> omega
        unfold hvE at el ⊢
        rw [lz.eq_def] at el
        cases least with
        | none =>
          simp only at el
          obtain ⟨n1, l1, e1, h1, hn1⟩ := draw_e (m := 5) hd (by decide) (by decide)
          obtain ⟨n2, l2, e2, h2, hn2⟩ := draw_e (m := 4) h1 (by decide) (by decide)
          obtain ⟨f1, f2⟩ := fin (n1 : Int) (by omega) (by omega) n2 (by omega)
          have es := vals_set (vs := vs) (j := j) (v := (n1 : Int) + sl - (if (n2 : Int) - 1 > 0 then (n2 : Int) - 1 else 0)) (by omega)
          refine ⟨(l2, vs.set j ((n1 : Int) + sl - (if (n2 : Int) - 1 > 0 then (n2 : Int) - 1 else 0)), iC j, some ⟨nD way, 0⟩, some ⟨Box.d ot, 0⟩, iC n1, b13, b14, b15, b16), ?_, hjr, h2, by simpa using hvs, f1, f2⟩
          generalize hz : (if (n2 : Int) - 1 > 0 then (n2 : Int) - 1 else 0) = z at *
          have em : fMax [⟨.int 0, 0⟩, ⟨.int ((n2 : Int) - 1), 0⟩] = .ok ⟨.int z, 0⟩ := by rw [f_max2, ← hz]
          simp (maxSteps := 1000000) -implicitDefEqProofs [-List.getD_eq_getElem?_getD, -f_max2, step1, b__law_heard_values_8, eix, eb, ein, hk, elen, erb, rgD_nat', el, e1, e2, em, es]
        | some v =>
          simp only at el
          obtain ⟨hv1, hv2⟩ := hle v rfl
          obtain ⟨n2, l2, e2, h2, hn2⟩ := draw_e (m := 4) hd (by decide) (by decide)
          obtain ⟨f1, f2⟩ := fin v hv1 hv2 n2 (by omega)
          have es := vals_set (vs := vs) (j := j) (v := v + sl - (if (n2 : Int) - 1 > 0 then (n2 : Int) - 1 else 0)) (by omega)
          refine ⟨(l2, vs.set j (v + sl - (if (n2 : Int) - 1 > 0 then (n2 : Int) - 1 else 0)), iC j, some ⟨nD way, 0⟩, some ⟨Box.d ot, 0⟩, some ⟨.int v, 0⟩, b13, b14, b15, b16), ?_, hjr, h2, by simpa using hvs, f1, f2⟩
          generalize hz : (if (n2 : Int) - 1 > 0 then (n2 : Int) - 1 else 0) = z at *
          have em : fMax [⟨.int 0, 0⟩, ⟨.int ((n2 : Int) - 1), 0⟩] = .ok ⟨.int z, 0⟩ := by rw [f_max2, ← hz]
          simp (maxSteps := 1000000) -implicitDefEqProofs [-List.getD_eq_getElem?_getD, -f_max2, step1, b__law_heard_values_8, eix, eb, ein, hk, elen, erb, rgD_nat', el, e2, em, es])
  exact ⟨l', vs', c9', c10', c11', c12', c13', c14', c15', c16', e, h1, h2, h3⟩
theorem law_heard_values_e (hlv : LvOk h nb lv) (hp : p < nb) (hw : ∀ o ∈ w, o < nb) (hwl : w.length ≤ 1000) (hs0 : 0 ≤ sl) (hs3 : sl ≤ 3) (hd : DSl l) :
    ∃ (l' : List D) (vs : List Int), c__law_heard_values [⟨.lst l, 1⟩, ⟨h.d, 0⟩, ⟨.lst (lv.map leafD), 1⟩, ⟨.int (p : Int), 0⟩, ⟨.int (kd : Int), 0⟩, ⟨nD w, 0⟩, ⟨.int sl, 0⟩] =
      .ok (⟨.lst (vs.map D.int), 1⟩, [⟨.lst l', 1⟩, ⟨h.d, 0⟩, ⟨.lst (lv.map leafD), 1⟩, ⟨.int (p : Int), 0⟩, ⟨.int (kd : Int), 0⟩, ⟨nD w, 0⟩, ⟨.int sl, 0⟩]) ∧ DSl l' ∧ vs.length = lv.length ∧ ∀ v ∈ vs, -10 ≤ v ∧ v ≤ 10 := by
  have hln := hlv.len
  have ec := comp_m (it := ⟨lv.map leafD, some 2⟩) (g := gN 8) (tt := mYes) (me := e__law_heard_values_1) (vs := [8]) (ρ := [some ⟨.lst l, 1⟩, some ⟨h.d, 0⟩, some ⟨.lst (lv.map leafD), 1⟩, iC p, iC kd, some ⟨nD w, 0⟩, some ⟨.int sl, 0⟩, none, none, none, none, none, none, none, none, none, none, none, none]) leafD (fun _ => D.int 0) (ds := lv) (fun x _ => by
    simp -implicitDefEqProofs [comp1, e__law_heard_values_1])
  have ez : lv.map (fun _ => D.int 0) = (lv.map fun _ => (0 : Int)).map D.int := by simp
  rw [ez] at ec
  obtain ⟨l1, vs1, a9, e1, h1, h2, h3⟩ := hv_first (w := w) (sl := sl) (kd := kd) (c9 := none) (c10 := none) (c11 := none) (c12 := none) (c13 := none) (c14 := none) (c15 := none) (c16 := none) (vs := lv.map fun _ => (0 : Int)) hlv hp hd (by simp) (fun v hv => by
    obtain ⟨_, _, rfl⟩ := List.mem_map.mp hv
    omega)
  obtain ⟨l2, vs2, b9, b10, b11, b12, b13, b14, b15, b16, e2, h4, h5, h6⟩ := hv_second (kd := kd) (c9 := a9) (c10 := none) (c11 := none) (c12 := none) (c13 := none) (c14 := none) (c15 := none) (c16 := none) hlv hp hw hwl hs0 hs3 h1 h2 h3
  refine ⟨l2, vs2, ?_, h4, h5, h6⟩
  have elen : fLen [⟨.lst (lv.map leafD), 1⟩] = .ok ⟨.int (lv.length : Int), 0⟩ := by simp
  have erb := rgB_nat (show lv.length ≤ 16777216 by omega)
  unfold hvE at e1 e2
  generalize (lv.map fun _ => (0 : Int)).map D.int = zs at *
  simp (maxSteps := 1000000) -implicitDefEqProofs [c__law_heard_values, m__law_heard_values, ec, elen, erb, rgD_nat', show lv.length ≤ 16777216 by omega, e1, e2]
end
end S

namespace S
open Z PySem PySem.Spec PyProof.Rows L2
section
variable {h : Hr} {lv : List (List Nat × Box)} {l : List D} {sizes : List Nat} {worths pay p : Nat} {sl : Int} {pds : List (List Int)} {w : List Nat}
  {c1 c2 c3 c4 c5 c6 c7 c8 c9 c10 c11 c12 c13 c14 c15 c16 c17 c18 c19 c20 c21 c22 c23 c24 c25 c26 : Option Cell}
theorem hh_told (hd : DSl l) {ns : List Str} (hn : lv.length ≤ ns.length) (hn1 : ns.length ≤ 1000) :
    ∃ (l' : List D) (ns' ts : List Str), loopC ⟨lv.map leafD, some 8⟩ (gN 10) mYes e__law_heard_house_2 [10] (lv.map leafD) [some ⟨.lst l, 1⟩, c1, c2, c3, some ⟨.lst (ns.map D.str), 1⟩, c5, c6, c7, some ⟨.lst (lv.map leafD), 1⟩, c9, none, c11, c12, c13, c14, c15, c16, c17, c18, c19, c20, c21, c22, c23, c24, c25, c26] =
      .ok (ts.map D.str, [some ⟨.lst l', 1⟩, c1, c2, c3, some ⟨.lst (ns'.map D.str), 1⟩, c5, c6, c7, some ⟨.lst (lv.map leafD), 1⟩, c9, none, c11, c12, c13, c14, c15, c16, c17, c18, c19, c20, c21, c22, c23, c24, c25, c26]) ∧ DSl l' ∧ ts.length = lv.length ∧ ns'.length + lv.length = ns.length := by
  obtain ⟨⟨l', ns'⟩, out, e, h1, ts, rfl, h2, h3⟩ := comp_rel (it := ⟨lv.map leafD, some 8⟩) (g := gN 10) (tt := mYes) (me := e__law_heard_house_2) (vs := [10]) (ds := lv) (s := (l, ns)) (acc := []) leafD
    (fun s : List D × List Str => [some ⟨.lst s.1, 1⟩, c1, c2, c3, some ⟨.lst (s.2.map D.str), 1⟩, c5, c6, c7, some ⟨.lst (lv.map leafD), 1⟩, c9, none, c11, c12, c13, c14, c15, c16, c17, c18, c19, c20, c21, c22, c23, c24, c25, c26]) (fun r s acc => DSl s.1 ∧ ∃ ts : List Str, acc = ts.map D.str ∧ ts.length + r.length = lv.length ∧ s.2.length + ts.length = ns.length) ⟨hd, [], rfl, by simp, by simp⟩ (fun a r s acc ⟨h1, ts, hacc, h2, h3⟩ => by
      rw [List.length_cons] at h2
      obtain ⟨x, ns2, l2, e, h4, h5⟩ := law_pop_many (ns := s.2) h1 (by omega) (by omega)
      refine ⟨(l2, ns2), some (.str x), ?_, h4, ts ++ [x], by simp [hacc], by simp; omega, by simp; omega⟩
      simp -implicitDefEqProofs [comp1, e__law_heard_house_2, e])
  simp only [List.nil_append] at e h1 h2 h3 ⊢
  exact ⟨l', ns', ts, e, h1, by simpa using h2, by simp at h2; omega⟩
theorem hh_paid1 (hd : DSl l) {sz : List Nat} (hp : pay ≤ 1000) :
    ∃ (l' : List D) (ns : List Int), loopC ⟨nL sz, none⟩ (gN 12) mYes e__law_heard_house_3 [12] (nL sz) [some ⟨.lst l, 1⟩, c1, c2, iC pay, c4, c5, c6, c7, c8, c9, c10, c11, none, c13, c14, c15, c16, c17, c18, c19, c20, c21, c22, c23, c24, c25, c26] =
      .ok (ns.map D.int, [some ⟨.lst l', 1⟩, c1, c2, iC pay, c4, c5, c6, c7, c8, c9, c10, c11, none, c13, c14, c15, c16, c17, c18, c19, c20, c21, c22, c23, c24, c25, c26]) ∧ DSl l' ∧ ns.length = sz.length ∧ ∀ i ∈ ns, -1000 ≤ i ∧ i ≤ 1000 := by
  obtain ⟨l', ns, e, h1, hp⟩ := comp_draw (it := ⟨nL sz, none⟩) (g := gN 12) (tt := mYes) (me := e__law_heard_house_3) (vs := [12]) (ds := sz) (s := l) (fun (i : Nat) => D.int (i : Int))
    (fun l => [some ⟨.lst l, 1⟩, c1, c2, iC pay, c4, c5, c6, c7, c8, c9, c10, c11, none, c13, c14, c15, c16, c17, c18, c19, c20, c21, c22, c23, c24, c25, c26]) D.int DSl (fun _ i => -1000 ≤ i ∧ i ≤ 1000) hd (fun a _ l hl => by
      obtain ⟨n, l', e, h1, h2⟩ := draw_e (m := 2 * (pay : Int) + 1) hl (by omega) (by omega)
      refine ⟨l', (n : Int) - pay, ?_, h1, by omega⟩
      simp -implicitDefEqProofs [comp1, e__law_heard_house_3, p_mulR (i := 2) (j := (pay : Int)) ⟨by omega, by omega⟩, e])
  exact ⟨l', ns, e, h1, by rw [← pr_len hp], pr_all hp fun _ _ z => z⟩
def PaysOk (np : Nat) (pds : List (List Int)) : Prop := ∀ q ∈ pds, q.length = np ∧ ∀ i ∈ q, -1000 ≤ i ∧ i ≤ 1000
theorem hh_paid (hd : DSl l) (hp : pay ≤ 1000) (hsz : sizes.length ≤ 1000) :
    ∃ (l' : List D) (pds : List (List Int)), loopC ⟨lv.map leafD, some 8⟩ (gN 10) mYes e__law_heard_house_4 [10] (lv.map leafD) [some ⟨.lst l, 1⟩, some ⟨nD sizes, 0⟩, c2, iC pay, c4, c5, c6, c7, some ⟨.lst (lv.map leafD), 1⟩, c9, none, c11, none, c13, c14, c15, c16, c17, c18, c19, c20, c21, c22, c23, c24, c25, c26] =
      .ok (pds.map iD, [some ⟨.lst l', 1⟩, some ⟨nD sizes, 0⟩, c2, iC pay, c4, c5, c6, c7, some ⟨.lst (lv.map leafD), 1⟩, c9, none, c11, none, c13, c14, c15, c16, c17, c18, c19, c20, c21, c22, c23, c24, c25, c26]) ∧ DSl l' ∧ pds.length = lv.length ∧ PaysOk sizes.length pds := by
  obtain ⟨l', pds, e, h1, hpp⟩ := comp_draw (it := ⟨lv.map leafD, some 8⟩) (g := gN 10) (tt := mYes) (me := e__law_heard_house_4) (vs := [10]) (ds := lv) (s := l) leafD
    (fun l => [some ⟨.lst l, 1⟩, some ⟨nD sizes, 0⟩, c2, iC pay, c4, c5, c6, c7, some ⟨.lst (lv.map leafD), 1⟩, c9, none, c11, none, c13, c14, c15, c16, c17, c18, c19, c20, c21, c22, c23, c24, c25, c26]) iD DSl (fun _ q => q.length = sizes.length ∧ ∀ i ∈ q, -1000 ≤ i ∧ i ≤ 1000) hd (fun a _ l hl => by
      obtain ⟨l', ns, e, h1, h2, h3⟩ := hh_paid1 (pay := pay) (sz := sizes) (c1 := some ⟨nD sizes, 0⟩) (c2 := c2) (c4 := c4) (c5 := c5) (c6 := c6) (c7 := c7) (c8 := some ⟨.lst (lv.map leafD), 1⟩) (c9 := c9) (c10 := some ⟨leafD a, 0⟩) (c11 := c11) (c13 := c13) (c14 := c14) (c15 := c15) (c16 := c16) (c17 := c17) (c18 := c18) (c19 := c19) (c20 := c20) (c21 := c21) (c22 := c22) (c23 := c23) (c24 := c24) (c25 := c25) (c26 := c26) hl hp
      refine ⟨l', ns, ?_, h1, h2, h3⟩
      have ei : itemsOf (nD sizes) = some (nL sizes) := rfl
      have et : D.tup (ns.map D.int) = iD ns := rfl
      simp (maxSteps := 1000000) -implicitDefEqProofs [comp1, e__law_heard_house_4, ei, show sizes.length ≤ 16777216 by omega, e, et])
  exact ⟨l', pds, e, h1, by rw [← pr_len hpp], pr_all hpp fun _ _ z => z⟩
/-- the numbers of one worth row -/
def hhRow (vs : List Int) (pds : List (List Int)) (p : Nat) (n : Nat) : List Int := (List.range n).map fun k => vs.getD k 0 + (pds.getD k []).getD p 0
theorem hh_row {vs : List Int} {n : Nat} (hv : n ≤ vs.length) (hn : n ≤ pds.length) (hp : ∀ q ∈ pds, p < q.length) :
    loopC ⟨rgI n, none⟩ (gN 12) mYes e__law_heard_house_5 [12] (rgI n) [some ⟨.lst l, 1⟩, c1, c2, c3, c4, c5, c6, c7, c8, c9, c10, some ⟨.lst (pds.map iD), 1⟩, none, c13, c14, iC p, c16, c17, c18, c19, c20, c21, some ⟨.lst (vs.map D.int), 1⟩, c23, c24, c25, c26] =
      .ok ((hhRow vs pds p n).map D.int, [some ⟨.lst l, 1⟩, c1, c2, c3, c4, c5, c6, c7, c8, c9, c10, some ⟨.lst (pds.map iD), 1⟩, none, c13, c14, iC p, c16, c17, c18, c19, c20, c21, some ⟨.lst (vs.map D.int), 1⟩, c23, c24, c25, c26]) := by
  have e := comp_m (it := ⟨rgI n, none⟩) (g := gN 12) (tt := mYes) (me := e__law_heard_house_5) (vs := [12]) (ρ := [some ⟨.lst l, 1⟩, c1, c2, c3, c4, c5, c6, c7, c8, c9, c10, some ⟨.lst (pds.map iD), 1⟩, none, c13, c14, iC p, c16, c17, c18, c19, c20, c21, some ⟨.lst (vs.map D.int), 1⟩, c23, c24, c25, c26]) (fun (i : Nat) => D.int (i : Int)) (fun k => D.int (vs.getD k 0 + (pds.getD k []).getD p 0)) (ds := List.range n) (fun k hk => by
    have hk2 : k < n := by simpa using hk
    have e1 := vals_ix (vs := vs) (j := k) (v := vs.getD k 0) (by simp [List.getElem?_eq_getElem (show k < vs.length by omega)])
    have hkp : k < pds.length := by omega
    have e2 : fIx [⟨.lst (pds.map iD), 1⟩, ⟨.int (k : Int), 0⟩] = .ok ⟨iD (pds.getD k []), 0⟩ := ixL (by omega) (map_some hkp)
    have hm : pds.getD k [] ∈ pds := by simp [List.getElem?_eq_getElem hkp]
    have e3 := ix_iD (k := 0) (k' := 0) (hp _ hm)
    simp -implicitDefEqProofs [-List.getD_eq_getElem?_getD, comp1, e__law_heard_house_5, e1, e2, e3])
  rw [e]
  congr 2
  unfold hhRow
  rw [List.map_map]
  rfl
theorem hhRow_ok {vs : List Int} {n np : Nat} (hv : n ≤ vs.length) (hv2 : ∀ v ∈ vs, -10 ≤ v ∧ v ≤ 10) (hn : n ≤ pds.length) (hp : PaysOk np pds) (hpn : p < np) : (hhRow vs pds p n).length = n ∧ ∀ i ∈ hhRow vs pds p n, Bd i := by
  refine ⟨by simp [hhRow], fun i hi => ?_⟩
  unfold hhRow at hi
  obtain ⟨k, hk, rfl⟩ := List.mem_map.mp hi
  have hk2 : k < n := by simpa using hk
  have h1 := hv2 (vs.getD k 0) (by simp [List.getElem?_eq_getElem (show k < vs.length by omega)])
  have hm : pds.getD k [] ∈ pds := by simp [List.getElem?_eq_getElem (show k < pds.length by omega)]
  obtain ⟨h2, h3⟩ := hp _ hm
  have h4 := h3 ((pds.getD k []).getD p 0) (by
    generalize pds.getD k [] = q at *
    simp [List.getElem?_eq_getElem (show p < q.length by omega)])
  unfold Bd
  omega
end
end S

namespace S
open Z PySem PySem.Spec PyProof.Rows L2
section
variable {h : Hr} {lv : List (List Nat × Box)} {l : List D} {sizes : List Nat} {worths pay p : Nat} {sl : Int} {pds : List (List Int)} {w : List Nat}
  {c1 c2 c3 c4 c5 c6 c7 c8 c9 c10 c11 c12 c13 c14 c15 c16 c17 c18 c19 c20 c21 c22 c23 c24 c25 c26 : Option Cell}
theorem asc_length : ∀ {w : List Nat} {a n : Nat}, w.Pairwise (· < ·) → (∀ x ∈ w, a ≤ x ∧ x < n) → w.length ≤ n - a
  | [], _, _, _, _ => by simp
  | x :: w, a, n, hp, h => by
    have hx := h x (List.mem_cons_self ..)
    have hp2 := List.pairwise_cons.mp hp
    have := asc_length (a := x + 1) (n := n) hp2.2 fun y hy => ⟨hp2.1 y hy, (h y (List.mem_cons_of_mem _ hy)).2⟩
    rw [List.length_cons]
    omega
structure HhOk (h : Hr) (nb : Nat) (lv : List (List Nat × Box)) (sl : Int) (pds : List (List Int)) : Prop where
  lvk : LvOk h nb lv
  s0 : 0 ≤ sl
  s3 : sl ≤ 3
  pd : pds.length = lv.length
  pok : PaysOk nb pds
  nb1 : nb ≤ 100
theorem hh_rows {nb kd : Nat} (ok : HhOk h nb lv sl pds) (hd : DSl l) (hp : p < nb) (hw : ∀ o ∈ w, o < nb) (hwl : w.length ≤ 1000) {n : Nat} (hn : n ≤ 1000) :
    ∃ (l' : List D) (c21' c22' : Option Cell) (rs : List (List Int)), loopF ⟨rgI n, none⟩ (gN 21) b__law_heard_house_6 [0] (rgI n) [some ⟨.lst l, 1⟩, c1, c2, c3, c4, c5, c6, some ⟨h.d, 0⟩, some ⟨.lst (lv.map leafD), 1⟩, c9, c10, some ⟨.lst (pds.map iD), 1⟩, none, some ⟨.int sl, 0⟩, c14, iC p, c16, some ⟨nD w, 0⟩, c18, iC kd, some ⟨.lst [], 1⟩, c21, c22, c23, c24, c25, c26] =
      .ok (.next, [some ⟨.lst l', 1⟩, c1, c2, c3, c4, c5, c6, some ⟨h.d, 0⟩, some ⟨.lst (lv.map leafD), 1⟩, c9, c10, some ⟨.lst (pds.map iD), 1⟩, none, some ⟨.int sl, 0⟩, c14, iC p, c16, some ⟨nD w, 0⟩, c18, iC kd, some ⟨.lst (rs.map iD), 1⟩, c21', c22', c23, c24, c25, c26]) ∧
      DSl l' ∧ rs.length = n ∧ ∀ ns ∈ rs, ns.length = lv.length ∧ ∀ i ∈ ns, Bd i := by
  have hlen := ok.lvk.len
  obtain ⟨⟨l', a21, a22⟩, rs, e, h1, hpp⟩ := for_app (it := ⟨rgI n, none⟩) (g := gN 21) (body := b__law_heard_house_6) (L := [0]) (ds := List.range n) (s := (l, c21, c22)) (acc := []) (fun (i : Nat) => D.int (i : Int))
    (fun (s : List D × Option Cell × Option Cell) (acc : List (List Int)) => [some ⟨.lst s.1, 1⟩, c1, c2, c3, c4, c5, c6, some ⟨h.d, 0⟩, some ⟨.lst (lv.map leafD), 1⟩, c9, c10, some ⟨.lst (pds.map iD), 1⟩, none, some ⟨.int sl, 0⟩, c14, iC p, c16, some ⟨nD w, 0⟩, c18, iC kd, some ⟨.lst (acc.map iD), 1⟩, s.2.1, s.2.2, c23, c24, c25, c26]) (fun s => DSl s.1) (fun _ ns => ns.length = lv.length ∧ ∀ i ∈ ns, Bd i) hd (by simp; omega) (fun a _ s acc hs hl => by
      obtain ⟨l2, vs, e2, h2, h3, h4⟩ := law_heard_values_e (h := h) (nb := nb) (p := p) (kd := kd) (lv := lv) (w := w) (sl := sl) ok.lvk hp hw hwl ok.s0 ok.s3 hs
      have e3 := hh_row (l := l2) (c1 := c1) (c2 := c2) (c3 := c3) (c4 := c4) (c5 := c5) (c6 := c6) (c7 := some ⟨h.d, 0⟩) (c8 := some ⟨.lst (lv.map leafD), 1⟩) (c9 := c9) (c10 := c10) (c13 := some ⟨.int sl, 0⟩) (c14 := c14) (c16 := c16) (c17 := some ⟨nD w, 0⟩) (c18 := c18) (c19 := iC kd) (c20 := some ⟨.lst (acc.map iD), 1⟩) (c21 := iC a) (c23 := c23) (c24 := c24) (c25 := c25) (c26 := c26) (vs := vs) (pds := pds) (p := p) (n := lv.length) (by omega) (by rw [ok.pd]; omega) (fun q hq => by rw [(ok.pok q hq).1]; exact hp)
      obtain ⟨f1, f2⟩ := hhRow_ok (vs := vs) (n := lv.length) (by omega) h4 (by rw [ok.pd]; omega) ok.pok hp
      refine ⟨(l2, iC a, some ⟨.lst (vs.map D.int), 1⟩), hhRow vs pds p lv.length, ?_, h2, f1, f2⟩
      have elen : fLen [⟨.lst (lv.map leafD), 1⟩] = .ok ⟨.int (lv.length : Int), 0⟩ := by simp
      have erb := rgB_nat (show lv.length ≤ 16777216 by omega)
      have et : ∀ ns : List Int, D.tup (ns.map D.int) = iD ns := fun _ => rfl
      simp (maxSteps := 1000000) -implicitDefEqProofs [step1, b__law_heard_house_6, e2, elen, erb, rgD_nat', show lv.length ≤ 16777216 by omega, e3, et, f_app (show (acc.map iD).length ≤ 10000 by simpa using hl)])
  simp only [List.nil_append] at e
  exact ⟨l', a21, a22, rs, e, h1, by rw [← pr_len hpp, List.length_range], pr_all hpp fun _ _ z => z⟩
theorem hh_kinds {nb : Nat} (ok : HhOk h nb lv sl pds) (hd : DSl l) (hp : p < nb) (hw : ∀ o ∈ w, o < nb) (hwl : w.length ≤ 1000) (h1w : 1 ≤ worths) (h3w : worths ≤ 3) {n : Nat} (hn : n ≤ 1000) {ws : List Str} (hws : n ≤ ws.length) (hws1 : ws.length ≤ 1000) :
    ∃ (l' : List D) (c19' c20' c21' c22' : Option Cell) (ws' : List Str) (ks : List Kind), loopF ⟨rgI n, none⟩ (gN 19) b__law_heard_house_7 [0] (rgI n) [some ⟨.lst l, 1⟩, c1, iC worths, c3, c4, c5, c6, some ⟨h.d, 0⟩, some ⟨.lst (lv.map leafD), 1⟩, c9, c10, some ⟨.lst (pds.map iD), 1⟩, none, some ⟨.int sl, 0⟩, c14, iC p, some ⟨.lst (ws.map D.str), 1⟩, some ⟨nD w, 0⟩, some ⟨.lst [], 1⟩, c19, c20, c21, c22, c23, c24, c25, c26] =
      .ok (.next, [some ⟨.lst l', 1⟩, c1, iC worths, c3, c4, c5, c6, some ⟨h.d, 0⟩, some ⟨.lst (lv.map leafD), 1⟩, c9, c10, some ⟨.lst (pds.map iD), 1⟩, none, some ⟨.int sl, 0⟩, c14, iC p, some ⟨.lst (ws'.map D.str), 1⟩, some ⟨nD w, 0⟩, some ⟨.lst (ks.map Kind.d), 1⟩, c19', c20', c21', c22', c23, c24, c25, c26]) ∧
      DSl l' ∧ ks.length = n ∧ ∀ k ∈ ks, KindOk lv.length k := by
  obtain ⟨⟨l', ws', a19, a20, a21, a22⟩, ks, e, ⟨h1, _⟩, hpp⟩ := for_app2 (it := ⟨rgI n, none⟩) (g := gN 19) (body := b__law_heard_house_7) (L := [0]) (ds := List.range n) (s := (l, ws, c19, c20, c21, c22)) (acc := []) (fun (i : Nat) => D.int (i : Int))
    (fun (s : List D × List Str × Option Cell × Option Cell × Option Cell × Option Cell) (acc : List Kind) => [some ⟨.lst s.1, 1⟩, c1, iC worths, c3, c4, c5, c6, some ⟨h.d, 0⟩, some ⟨.lst (lv.map leafD), 1⟩, c9, c10, some ⟨.lst (pds.map iD), 1⟩, none, some ⟨.int sl, 0⟩, c14, iC p, some ⟨.lst (s.2.1.map D.str), 1⟩, some ⟨nD w, 0⟩, some ⟨.lst (acc.map Kind.d), 1⟩, s.2.2.1, s.2.2.2.1, s.2.2.2.2.1, s.2.2.2.2.2, c23, c24, c25, c26])
    (fun r s => DSl s.1 ∧ r.length ≤ s.2.1.length ∧ s.2.1.length ≤ 1000) (fun _ k => KindOk lv.length k) ⟨hd, by simpa using hws, hws1⟩ (by simp; omega) (fun a r s acc ⟨hs, hs2, hs3⟩ hl => by
      rw [List.length_cons] at hs2
      obtain ⟨n, l1, e1, h1, hn⟩ := drawN_e (m := worths) hs (by omega) (by omega)
      have hr1 := rg_one n (by omega)
      obtain ⟨l2, a21, a22, rs, e2, h2, h3, h4⟩ := hh_rows (kd := a) (c1 := c1) (c2 := iC worths) (c3 := c3) (c4 := c4) (c5 := c5) (c6 := c6) (c9 := c9) (c10 := c10) (c14 := c14) (c16 := some ⟨.lst (s.2.1.map D.str), 1⟩) (c18 := some ⟨.lst (acc.map Kind.d), 1⟩) (c21 := s.2.2.2.2.1) (c22 := s.2.2.2.2.2) (c23 := c23) (c24 := c24) (c25 := c25) (c26 := c26) ok h1 hp hw hwl (n := 1 + n) (by omega)
      obtain ⟨x, ws2, l3, e3, h5, h6⟩ := law_pop_many (ns := s.2.1) h2 (by omega) hs3
      refine ⟨(l3, ws2, iC a, some ⟨.lst (rs.map iD), 1⟩, a21, a22), ⟨x, rs⟩, ?_, ⟨h5, by simp only; omega, by simp only; omega⟩, ⟨by simp only; omega, by simp only; omega, h4⟩⟩
      simp (maxSteps := 1000000) -implicitDefEqProofs [step1, b__law_heard_house_7, e1, hr1.1, hr1.2, e2, e3, f_app (show (acc.map Kind.d).length ≤ 10000 by simpa using hl), Kind.d])
  simp only [List.nil_append] at e
  exact ⟨l', a19, a20, a21, a22, ws', ks, e, h1, by rw [← pr_len hpp, List.length_range], pr_all hpp fun _ _ z => z⟩
theorem hh_persons (ok : HhOk h sizes.length lv sl pds) (hd : DSl l) (hs : SizesOk sizes) (h1w : 1 ≤ worths) (h3w : worths ≤ 3) {ns : List Str} (hns : sizes.length ≤ ns.length) (hn1 : ns.length ≤ 1000) :
    ∃ (l' : List D) (c15' c16' c17' c18' c19' c20' c21' c22' : Option Cell) (ns' : List Str) (ps : List Prsn), loopF ⟨rgI sizes.length, none⟩ (gN 15) b__law_heard_house_8 [0] (rgI sizes.length) [some ⟨.lst l, 1⟩, some ⟨nD sizes, 0⟩, iC worths, c3, some ⟨.lst (ns.map D.str), 1⟩, c5, c6, some ⟨h.d, 0⟩, some ⟨.lst (lv.map leafD), 1⟩, c9, c10, some ⟨.lst (pds.map iD), 1⟩, none, some ⟨.int sl, 0⟩, some ⟨.lst [], 1⟩, c15, c16, c17, c18, c19, c20, c21, c22, c23, c24, c25, c26] =
      .ok (.next, [some ⟨.lst l', 1⟩, some ⟨nD sizes, 0⟩, iC worths, c3, some ⟨.lst (ns'.map D.str), 1⟩, c5, c6, some ⟨h.d, 0⟩, some ⟨.lst (lv.map leafD), 1⟩, c9, c10, some ⟨.lst (pds.map iD), 1⟩, none, some ⟨.int sl, 0⟩, some ⟨.lst (ps.map Prsn.d), 1⟩, c15', c16', c17', c18', c19', c20', c21', c22', c23, c24, c25, c26]) ∧
      DSl l' ∧ ps.length = sizes.length ∧ ∀ (p : Nat) (q : Prsn), ps[p]? = some q → PrsnOk sizes.length lv.length p (sizes.getD p 0) q := by
  have h4 := hs.n4
  obtain ⟨⟨l', ns', a15, a16, a17, a18, a19, a20, a21, a22⟩, ps, e, ⟨h1, _⟩, hpp⟩ := for_app2 (it := ⟨rgI sizes.length, none⟩) (g := gN 15) (body := b__law_heard_house_8) (L := [0]) (ds := List.range sizes.length) (s := (l, ns, c15, c16, c17, c18, c19, c20, c21, c22)) (acc := []) (fun (i : Nat) => D.int (i : Int))
    (fun (s : List D × List Str × Option Cell × Option Cell × Option Cell × Option Cell × Option Cell × Option Cell × Option Cell × Option Cell) (acc : List Prsn) => [some ⟨.lst s.1, 1⟩, some ⟨nD sizes, 0⟩, iC worths, c3, some ⟨.lst (s.2.1.map D.str), 1⟩, c5, c6, some ⟨h.d, 0⟩, some ⟨.lst (lv.map leafD), 1⟩, c9, c10, some ⟨.lst (pds.map iD), 1⟩, none, some ⟨.int sl, 0⟩, some ⟨.lst (acc.map Prsn.d), 1⟩, s.2.2.1, s.2.2.2.1, s.2.2.2.2.1, s.2.2.2.2.2.1, s.2.2.2.2.2.2.1, s.2.2.2.2.2.2.2.1, s.2.2.2.2.2.2.2.2.1, s.2.2.2.2.2.2.2.2.2, c23, c24, c25, c26])
    (fun r s => DSl s.1 ∧ r.length ≤ s.2.1.length ∧ s.2.1.length ≤ 1000 ∧ ∀ p ∈ r, p < sizes.length) (fun p q => PrsnOk sizes.length lv.length p (sizes.getD p 0) q) ⟨hd, by simpa using hns, hn1, by simp⟩ (by simp; omega) (fun a r s acc ⟨hs1, hs2, hs3, hs4⟩ hl => by
      rw [List.length_cons] at hs2
      have ha := hs4 a (List.mem_cons_self ..)
      have hsz := hs.s (sizes.getD a 0) (by simp [List.getElem?_eq_getElem ha])
      have hpl := pool_len
      obtain ⟨w, l0, e0, h0, h8, h9⟩ := law_watching_e (p := a) (m := sizes.length) hs1 (by omega)
      have hwl : w.length ≤ 1000 := by
        have := asc_length (a := 0) h8 fun x hx => ⟨Nat.zero_le _, (h9 x hx).1⟩
        omega
      obtain ⟨l1, a19, a20, a21, a22, ws', ks, e1, h1, h2, h3⟩ := hh_kinds (c1 := some ⟨nD sizes, 0⟩) (c3 := c3) (c4 := some ⟨.lst (s.2.1.map D.str), 1⟩) (c5 := c5) (c6 := c6) (c9 := c9) (c10 := c10) (c14 := some ⟨.lst (acc.map Prsn.d), 1⟩) (c19 := s.2.2.2.2.2.2.1) (c20 := s.2.2.2.2.2.2.2.1) (c21 := s.2.2.2.2.2.2.2.2.1) (c22 := s.2.2.2.2.2.2.2.2.2) (c23 := c23) (c24 := c24) (c25 := c25) (c26 := c26) ok h0 ha (fun o ho => (h9 o ho).1) hwl h1w h3w (n := sizes.getD a 0) (by omega) (ws := pool) (by omega) (by omega)
      obtain ⟨x, ns2, l2, e2, h5, h6⟩ := law_pop_many (ns := s.2.1) h1 (by omega) hs3
      refine ⟨(l2, ns2, iC a, some ⟨.lst (ws'.map D.str), 1⟩, some ⟨nD w, 0⟩, some ⟨.lst (ks.map Kind.d), 1⟩, a19, a20, a21, a22), ⟨x, ks, w⟩, ?_, ⟨h5, by simp only; omega, by simp only; omega, fun p hp => hs4 p (List.mem_cons_of_mem _ hp)⟩, ⟨h2, h3, h8, h9⟩⟩
      have ex : fIx [⟨nD sizes, 0⟩, ⟨.int (a : Int), 0⟩] = .ok ⟨.int (sizes.getD a 0 : Nat), 0⟩ := ixT (map_some ha)
      simp (maxSteps := 1000000) -implicitDefEqProofs [-List.getD_eq_getElem?_getD, step1, b__law_heard_house_8, law_pool_ok, ex, rgB_nat (show sizes.getD a 0 ≤ 16777216 by omega), rgD_nat', e0, e1, e2, f_app (show (acc.map Prsn.d).length ≤ 10000 by simpa using hl), Prsn.d])
  simp only [List.nil_append] at e
  exact ⟨l', a15, a16, a17, a18, a19, a20, a21, a22, ns', ps, e, h1, by rw [← pr_len hpp, List.length_range], fun p q e => pr_range hpp e⟩
end
end S

namespace S
open Z PySem PySem.Spec PyProof.Rows L2
theorem ixOf_nD {q : List Nat} : ∀ {ps : List (List Nat)} {j : Nat}, q ∈ ps → ∃ i, i < ps.length ∧ ps[i]? = some q ∧ ixOf (nD q) j (ps.map nD) = some (j + i)
  | [], _, h => by simp at h
  | a :: r, j, h => by
    have e := eqv_pl 60 (nD a) (nD q) nD_pl nD_pl
    by_cases ha : a = q
    · subst ha
      refine ⟨0, by simp, rfl, ?_⟩
      rw [List.map_cons, ixOf, e]
      simp
    · have hq : q ∈ r := by
        rcases List.mem_cons.mp h with rfl | h
        · exact absurd rfl ha
        · exact h
      obtain ⟨i, h1, h2, h3⟩ := ixOf_nD (j := j + 1) hq
      refine ⟨i + 1, by simp; omega, by simpa using h2, ?_⟩
      have hne : ¬ nD a = nD q := fun z => ha (nD_inj.mp z)
      rw [List.map_cons, ixOf, e, decide_eq_false hne, if_neg (by simp), h3]
      congr 1
      omega
theorem f_indexL {q : List Nat} {ps : List (List Nat)} {k k' : Nat} (hm : q ∈ ps) : ∃ i, i < ps.length ∧ ps[i]? = some q ∧ fIndexL [⟨.lst (ps.map nD), k⟩, ⟨nD q, k'⟩] = .ok ⟨.int ((i : Nat) : Int), 0⟩ := by
  obtain ⟨i, h1, h2, h3⟩ := ixOf_nD (j := 0) hm
  refine ⟨i, h1, h2, ?_⟩
  have hq : (nD q).okd 60 = true := D.pl_okd _ _ nD_pl
  have hl : (D.lst (ps.map nD)).okd 60 = true := by
    rw [D.okd, List.all_eq_true]
    intro d hd
    obtain ⟨z, _, rfl⟩ := List.mem_map.mp hd
    exact D.pl_okd _ _ nD_pl
  unfold fIndexL
  simp only [hl, hq, Bool.and_true, if_true, h3, Nat.zero_add]
  rfl
section
variable {h : Hr} {lv : List (List Nat × Box)} {l : List D} {sizes : List Nat} {worths pay p : Nat} {sl : Int} {pds : List (List Int)} {w : List Nat}
  {c0 c1 c2 c3 c4 c5 c6 c7 c8 c9 c10 c11 c12 c13 c14 c15 c16 c17 c18 c19 c20 c21 c22 c23 c24 c25 c26 : Option Cell}
theorem hh_ends {b : Box} (hok : HearOk b h) (hb : b.length ≤ 1000) (hm : h.many ≤ 1000) (hsz : ∀ q ∈ b, q.length ≤ 1000) (hpd : pds.length = h.many) (hpk : PaysOk b.length pds) {rows : List Row} (hr : ∀ r ∈ rows, r.length = b.length ∧ InBox r b) (hrl : rows.length ≤ 5000) :
    ∃ (c25' c26' : Option Cell) (es : List End), loopF ⟨rows.map nD, none⟩ (gN 25) b__law_heard_house_10 [0] (rows.map nD) [c0, c1, c2, c3, c4, c5, c6, some ⟨h.d, 0⟩, c8, c9, c10, some ⟨.lst (pds.map iD), 1⟩, c12, c13, c14, c15, c16, c17, c18, c19, c20, c21, c22, some ⟨.lst ((h.leaves [] b).map fun x => nD x.1), 1⟩, some ⟨.lst [], 1⟩, c25, c26] =
      .ok (.next, [c0, c1, c2, c3, c4, c5, c6, some ⟨h.d, 0⟩, c8, c9, c10, some ⟨.lst (pds.map iD), 1⟩, c12, c13, c14, c15, c16, c17, c18, c19, c20, c21, c22, some ⟨.lst ((h.leaves [] b).map fun x => nD x.1), 1⟩, some ⟨.lst (es.map End.d), 1⟩, c25', c26']) ∧
      es.length = rows.length ∧ ∀ e ∈ es, EndOk b.length h.many e := by
  obtain ⟨⟨a25, a26⟩, es, e, _, hpp⟩ := for_app (it := ⟨rows.map nD, none⟩) (g := gN 25) (body := b__law_heard_house_10) (L := [0]) (ds := rows) (s := (c25, c26)) (acc := []) nD
    (fun (s : Option Cell × Option Cell) (acc : List End) => [c0, c1, c2, c3, c4, c5, c6, some ⟨h.d, 0⟩, c8, c9, c10, some ⟨.lst (pds.map iD), 1⟩, c12, c13, c14, c15, c16, c17, c18, c19, c20, c21, c22, some ⟨.lst ((h.leaves [] b).map fun x => nD x.1), 1⟩, some ⟨.lst (acc.map End.d), 1⟩, s.1, s.2]) (fun _ => True) (fun _ e => EndOk b.length h.many e) trivial (by simp; omega) (fun r hrm s acc _ hl => by
      obtain ⟨hr1, hr2⟩ := hr r hrm
      obtain ⟨a, q, e1, hw⟩ := law_run_e hok hb hm hr1 hr2 hsz
      obtain ⟨bx, hmem⟩ := hw.leaf (path := []) (b := b)
      rw [List.nil_append] at hmem
      obtain ⟨i, h1, h2, h3⟩ := f_indexL (q := q) (ps := (h.leaves [] b).map (·.1)) (k := 1) (k' := 0) (List.mem_map_of_mem (f := (·.1)) hmem)
      rw [List.map_map] at h3
      rw [List.length_map, Hr.leaves_len] at h1
      have hip : i < pds.length := by omega
      have e2 : fIx [⟨.lst (pds.map iD), 1⟩, ⟨.int (i : Int), 0⟩] = .ok ⟨iD (pds.getD i []), 0⟩ := ixL (by omega) (map_some hip)
      have hmp : pds.getD i [] ∈ pds := by simp [List.getElem?_eq_getElem hip]
      have hk := hpk _ hmp
      have e3 : fIx [⟨.tup [.tup (a.map ansD), nD q], 0⟩, ⟨.int 1, 0⟩] = .ok ⟨nD q, 0⟩ := ixT1
      refine ⟨(some ⟨nD r, 0⟩, iC i), ⟨i, pds.getD i []⟩, ?_, trivial, ⟨h1, hk.1, fun x hx => by have := hk.2 x hx; unfold Bd; omega⟩⟩
      have h3' : fIndexL [⟨.lst ((h.leaves [] b).map fun x => nD x.1), 1⟩, ⟨nD q, 0⟩] = .ok ⟨.int (i : Int), 0⟩ := h3
      have hil : isLstD (.lst ((h.leaves [] b).map fun x => nD x.1)) = true := rfl
      generalize (h.leaves [] b).map (fun x => nD x.1) = pths at *
      simp (maxSteps := 1000000) -implicitDefEqProofs [-List.getD_eq_getElem?_getD, step1, b__law_heard_house_10, mIndex, mRecv, hil, e1, e3, h3', e2, f_app (show (acc.map End.d).length ≤ 10000 by simpa using hl), End.d])
  simp only [List.nil_append] at e
  exact ⟨a25, a26, es, e, (pr_len hpp).symm, pr_all hpp fun _ _ z => z⟩
end
end S

namespace S
open Z PySem PySem.Spec PyProof.Rows L2
theorem row_in {b : Box} {r : Row} (h : r ∈ prodL b) : r.length = b.length ∧ InBox r b := by
  have hp := prodL_mem.mp h
  refine ⟨pr_len hp, fun i hi => ?_⟩
  have hl := pr_len hp
  have := pr_get hp (i := i) (a := r.getD i 0) (b := b.getD i []) (by simp [List.getElem?_eq_getElem (show i < r.length by omega)]) (by simp [List.getElem?_eq_getElem hi])
  exact this
theorem leaves_ok {h : Hr} {b : Box} (hok : HearOk b h) (hb : b.length ≤ 1000) (hm : h.many ≤ 1000) (hsz : ∀ q ∈ b, q.length ≤ 1000) : LvOk h b.length (h.leaves [] b) := by
  have key : ∀ {h : Hr} {b : Box} {path : List Nat}, HearOk b h → (∀ q ∈ b, q.length ≤ 1000) → ∀ x ∈ h.leaves path b, x.1.length + 1 ≤ path.length + h.many ∧ ∀ q ∈ x.2, q.length ≤ 1000 := by
    intro h
    induction h using Hr.ind with
    | h0 =>
      intro b path _ hs x hx
      rw [Hr.leaves_fin] at hx
      simp at hx
      subst hx
      rw [Hr.many_fin]
      exact ⟨by simp, hs⟩
    | h1 p rows ih =>
      intro b path hok hs x hx
      have hms := fun {r} hr => many_sub hok (r := r) hr
      cases hok with
      | ask hp h2 hel _ hsub =>
        rw [Hr.leaves_ask, List.mem_flatten] at hx
        obtain ⟨l, hl, hq⟩ := hx
        obtain ⟨⟨r, k⟩, hk, rfl⟩ := List.mem_map.mp hl
        have hk2 := List.mem_of_getElem? (List.mem_zipIdx_iff_getElem?.mp hk)
        simp only at hk2
        have := ih r hk2 (hsub r hk2) (fun q hq => by
          rcases List.mem_or_eq_of_mem_set hq with hq | rfl
          · exact hs q hq
          · exact Nat.le_trans (hel r hk2).2.length_le (hs _ (getD_mem' hp))) x hq
        have hlt := hms hk2
        simp only [List.length_append, List.length_cons, List.length_nil] at this
        exact ⟨by omega, this.2⟩
  refine ⟨fun x hx => (leaf_at0 (q := x.1) (bx := x.2) hx).1, fun x hx => ?_, by rw [Hr.leaves_len]; exact hm⟩
  have h1 := key hok hsz x hx
  exact ⟨(leaf_at0 (q := x.1) (bx := x.2) hx).2, by simp at h1; omega, h1.2⟩
theorem sizes_box {c0 c2 c3 c4 : Option Cell} {sizes : List Nat} (hs : SizesOk sizes) :
    loopC ⟨nL sizes, none⟩ (gN 6) mYes e__law_heard_house_1 [6] (nL sizes) [c0, some ⟨nD sizes, 0⟩, c2, c3, c4, none, none, none, none, none, none, none, none, none, none, none, none, none, none, none, none, none, none, none, none, none, none] =
      .ok ((sizes.map List.range).map nD, [c0, some ⟨nD sizes, 0⟩, c2, c3, c4, none, none, none, none, none, none, none, none, none, none, none, none, none, none, none, none, none, none, none, none, none, none]) := by
  have e := comp_m (it := ⟨nL sizes, none⟩) (g := gN 6) (tt := mYes) (me := e__law_heard_house_1) (vs := [6]) (ρ := [c0, some ⟨nD sizes, 0⟩, c2, c3, c4, none, none, none, none, none, none, none, none, none, none, none, none, none, none, none, none, none, none, none, none, none, none]) (fun (i : Nat) => D.int (i : Int)) (fun s => nD (List.range s)) (ds := sizes) (fun s hsm => by
    have := hs.s s hsm
    have e1 := rgOk_nat (n := s) (by omega)
    simp -implicitDefEqProofs [comp1, e__law_heard_house_1, e1, rgD_nL]
    rfl)
  have e0 : sizes.map (fun (i : Nat) => D.int (i : Int)) = nL sizes := rfl
  rw [e0] at e
  rw [e, List.map_map]
  rfl
theorem hh_paths {lv : List (List Nat × Box)} {c0 c1 c2 c3 c4 c5 c6 c7 c9 c11 c12 c13 c14 c15 c16 c17 c18 c19 c20 c21 c22 c23 c24 c25 c26 : Option Cell} :
    loopC ⟨lv.map leafD, some 8⟩ (gN 10) mYes e__law_heard_house_9 [10] (lv.map leafD) [c0, c1, c2, c3, c4, c5, c6, c7, some ⟨.lst (lv.map leafD), 1⟩, c9, none, c11, c12, c13, c14, c15, c16, c17, c18, c19, c20, c21, c22, c23, c24, c25, c26] =
      .ok (lv.map fun x => nD x.1, [c0, c1, c2, c3, c4, c5, c6, c7, some ⟨.lst (lv.map leafD), 1⟩, c9, none, c11, c12, c13, c14, c15, c16, c17, c18, c19, c20, c21, c22, c23, c24, c25, c26]) :=
  comp_m leafD (fun x => nD x.1) fun x _ => by
    have ex : fIx [⟨leafD x, 0⟩, ⟨.int 0, 0⟩] = .ok ⟨nD x.1, 0⟩ := ixT0
    simp -implicitDefEqProofs [comp1, e__law_heard_house_9, ex]
theorem box_sizes {sizes : List Nat} (hs : SizesOk sizes) : (sizes.map List.range).length ≤ 4 ∧ ∀ q ∈ (sizes.map List.range : Box), q.length ≤ 8 ∧ q.Nodup ∧ 1 ≤ q.length := by
  refine ⟨by rw [List.length_map]; exact hs.n4, fun q hq => ?_⟩
  obtain ⟨s, hsm, rfl⟩ := List.mem_map.mp hq
  have := hs.s s hsm
  exact ⟨by simp; omega, List.nodup_range, by simp; omega⟩
theorem law_heard_house_e {l : List D} {sizes : List Nat} {worths pay : Nat} (h : DSl l) (hs : SizesOk sizes) (hw : 1 ≤ worths) (hw3 : worths ≤ 3) (hp : pay ≤ 1000) :
    ∃ (H : House) (hr : Hr) (l' : List D), c__law_heard_house [⟨.lst l, 1⟩, ⟨nD sizes, 0⟩, ⟨.int (worths : Int), 0⟩, ⟨.int (pay : Int), 0⟩] = .ok (⟨.tup [H.d, hr.d], 0⟩, [⟨.lst l', 1⟩, ⟨nD sizes, 0⟩, ⟨.int (worths : Int), 0⟩, ⟨.int (pay : Int), 0⟩]) ∧
      DSl l' ∧ HouseOk H sizes ∧ HearOk (sizes.map List.range) hr ∧ hr.many ≤ 12 ∧ H.told.length = hr.many := by
  obtain ⟨hb4, hbq⟩ := box_sizes hs
  have hn4 := hs.n4
  have hpl := pool_len
  have e1 := sizes_box (c0 := some ⟨.lst l, 1⟩) (c2 := iC worths) (c3 := iC pay) (c4 := some ⟨.lst (pool.map D.str), 1⟩) hs
  obtain ⟨hr, l1, e2, g1, hok, hm⟩ := law_hearing_e 29 12 (by decide) (by decide) (l := l) (b := sizes.map List.range) h (by omega) (fun q hq => by have := hbq q hq; exact ⟨by omega, this.2.1⟩)
  have hm12 : hr.many ≤ 12 := by simpa using hm
  have hmp := many_pos hok
  have e3 := law_leaves_e hok (by omega) (by omega)
  have hlv := leaves_ok hok (by omega) (by omega) (fun q hq => by have := hbq q hq; omega)
  have hll := Hr.leaves_len (h := hr) (path := []) (b := sizes.map List.range)
  generalize hlvd : hr.leaves [] (sizes.map List.range) = lv at *
  have hbl : (sizes.map List.range : Box).length = sizes.length := List.length_map _
  obtain ⟨l2, ns2, ts, e4, g2, ht, hns⟩ := hh_told (lv := lv) (c1 := some ⟨nD sizes, 0⟩) (c2 := iC worths) (c3 := iC pay) (c5 := some ⟨Box.d (sizes.map List.range), 0⟩) (c6 := none) (c7 := some ⟨hr.d, 0⟩) (c9 := none) (c11 := none) (c12 := none) (c13 := none) (c14 := none) (c15 := none) (c16 := none) (c17 := none) (c18 := none) (c19 := none) (c20 := none) (c21 := none) (c22 := none) (c23 := none) (c24 := none) (c25 := none) (c26 := none) g1 (ns := pool) (by omega) (by omega)
  obtain ⟨l3, pds, e5, g3, hpd, hpk⟩ := hh_paid (lv := lv) (sizes := sizes) (pay := pay) (c2 := iC worths) (c4 := some ⟨.lst (ns2.map D.str), 1⟩) (c5 := some ⟨Box.d (sizes.map List.range), 0⟩) (c6 := none) (c7 := some ⟨hr.d, 0⟩) (c9 := some ⟨.tup (ts.map D.str), 0⟩) (c11 := none) (c13 := none) (c14 := none) (c15 := none) (c16 := none) (c17 := none) (c18 := none) (c19 := none) (c20 := none) (c21 := none) (c22 := none) (c23 := none) (c24 := none) (c25 := none) (c26 := none) g2 hp (by omega)
  rw [show (29 + 1 : Nat) = 30 from rfl, show ((12 : Nat) : Int) = 12 from rfl] at e2
  have hrl : (prodL (sizes.map List.range)).length ≤ 256 := by
    rw [foldr_len]; exact hs.rows
  obtain ⟨n4, l4, e6, g4, hn4'⟩ := draw_e (m := 4) g3 (by decide) (by decide)
  have fin : ∀ (sl : Int) (l5 : List D), 0 ≤ sl → sl ≤ 3 → DSl l5 → ∃ (l6 : List D) (a15 a16 a17 a18 a19 a20 a21 a22 : Option Cell) (ns' : List Str) (ps : List Prsn) (a25 a26 : Option Cell) (es : List End),
      loopF ⟨rgI sizes.length, none⟩ (gN 15) b__law_heard_house_8 [0] (rgI sizes.length) [some ⟨.lst l5, 1⟩, some ⟨nD sizes, 0⟩, iC worths, iC pay, some ⟨.lst (ns2.map D.str), 1⟩, some ⟨Box.d (sizes.map List.range), 0⟩, none, some ⟨hr.d, 0⟩, some ⟨.lst (lv.map leafD), 1⟩, some ⟨.tup (ts.map D.str), 0⟩, none, some ⟨.lst (pds.map iD), 1⟩, none, some ⟨.int sl, 0⟩, some ⟨.lst [], 1⟩, none, none, none, none, none, none, none, none, none, none, none, none] =
        .ok (.next, [some ⟨.lst l6, 1⟩, some ⟨nD sizes, 0⟩, iC worths, iC pay, some ⟨.lst (ns'.map D.str), 1⟩, some ⟨Box.d (sizes.map List.range), 0⟩, none, some ⟨hr.d, 0⟩, some ⟨.lst (lv.map leafD), 1⟩, some ⟨.tup (ts.map D.str), 0⟩, none, some ⟨.lst (pds.map iD), 1⟩, none, some ⟨.int sl, 0⟩, some ⟨.lst (ps.map Prsn.d), 1⟩, a15, a16, a17, a18, a19, a20, a21, a22, none, none, none, none]) ∧
      loopF ⟨(prodL (sizes.map List.range)).map nD, none⟩ (gN 25) b__law_heard_house_10 [0] ((prodL (sizes.map List.range)).map nD) [some ⟨.lst l6, 1⟩, some ⟨nD sizes, 0⟩, iC worths, iC pay, some ⟨.lst (ns'.map D.str), 1⟩, some ⟨Box.d (sizes.map List.range), 0⟩, none, some ⟨hr.d, 0⟩, some ⟨.lst (lv.map leafD), 1⟩, some ⟨.tup (ts.map D.str), 0⟩, none, some ⟨.lst (pds.map iD), 1⟩, none, some ⟨.int sl, 0⟩, some ⟨.lst (ps.map Prsn.d), 1⟩, a15, a16, a17, a18, a19, a20, a21, a22, some ⟨.lst (lv.map fun x => nD x.1), 1⟩, some ⟨.lst [], 1⟩, none, none] =
        .ok (.next, [some ⟨.lst l6, 1⟩, some ⟨nD sizes, 0⟩, iC worths, iC pay, some ⟨.lst (ns'.map D.str), 1⟩, some ⟨Box.d (sizes.map List.range), 0⟩, none, some ⟨hr.d, 0⟩, some ⟨.lst (lv.map leafD), 1⟩, some ⟨.tup (ts.map D.str), 0⟩, none, some ⟨.lst (pds.map iD), 1⟩, none, some ⟨.int sl, 0⟩, some ⟨.lst (ps.map Prsn.d), 1⟩, a15, a16, a17, a18, a19, a20, a21, a22, some ⟨.lst (lv.map fun x => nD x.1), 1⟩, some ⟨.lst (es.map End.d), 1⟩, a25, a26]) ∧
      DSl l6 ∧ ps.length ≤ 4 ∧ es.length ≤ 256 ∧ HouseOk ⟨ts, ps, es, sl⟩ sizes := fun sl l5 h0 h3 hd => by
    have ok : HhOk hr sizes.length lv sl pds := ⟨by rw [← hbl]; exact hlv, h0, h3, hpd, hpk, by omega⟩
    obtain ⟨l6, a15, a16, a17, a18, a19, a20, a21, a22, ns', ps, e7, g6, hps, hpr⟩ := hh_persons (worths := worths) (c3 := iC pay) (c5 := some ⟨Box.d (sizes.map List.range), 0⟩) (c6 := none) (c9 := some ⟨.tup (ts.map D.str), 0⟩) (c10 := none) (c15 := none) (c16 := none) (c17 := none) (c18 := none) (c19 := none) (c20 := none) (c21 := none) (c22 := none) (c23 := none) (c24 := none) (c25 := none) (c26 := none) ok hd hs hw hw3 (ns := ns2) (by omega) (by omega)
    obtain ⟨a25, a26, es, e8, hel, hes⟩ := hh_ends (h := hr) (b := sizes.map List.range) (pds := pds) (rows := prodL (sizes.map List.range)) (c0 := some ⟨.lst l6, 1⟩) (c1 := some ⟨nD sizes, 0⟩) (c2 := iC worths) (c3 := iC pay) (c4 := some ⟨.lst (ns'.map D.str), 1⟩) (c5 := some ⟨Box.d (sizes.map List.range), 0⟩) (c6 := none) (c8 := some ⟨.lst (lv.map leafD), 1⟩) (c9 := some ⟨.tup (ts.map D.str), 0⟩) (c10 := none) (c12 := none) (c13 := some ⟨.int sl, 0⟩) (c14 := some ⟨.lst (ps.map Prsn.d), 1⟩) (c15 := a15) (c16 := a16) (c17 := a17) (c18 := a18) (c19 := a19) (c20 := a20) (c21 := a21) (c22 := a22) (c25 := none) (c26 := none) hok (by omega) (by omega) (fun q hq => by have := hbq q hq; omega) (by omega) (by rw [hbl]; exact hpk) (fun r hr => row_in hr) (by omega)
    rw [hlvd] at e8
    refine ⟨l6, a15, a16, a17, a18, a19, a20, a21, a22, ns', ps, a25, a26, es, e7, e8, g6, by omega, by omega, ⟨hps, fun p q hq => ?_, ?_, ?_, ?_, fun e he => ?_, h0, ?_⟩⟩
    · have := hpr p q hq
      rw [← ht] at this
      exact this
    · simp only; omega
    · simp only; omega
    · simp only
      rw [hel, foldr_len]
    · have := hes e he
      rw [hbl, ← hll, ← ht] at this
      exact this
    · simp only; omega
  have ei : itemsOf (nD sizes) = some (nL sizes) := rfl
  have et : D.tup ((sizes.map List.range).map nD) = Box.d (sizes.map List.range) := rfl
  have erows := law_rows_box (b := sizes.map List.range) (k := 0) (c := Box.d (sizes.map List.range)) (.inl ⟨.inl rfl, rfl⟩) ⟨by omega, fun q hq => (hbq q hq).1⟩
  have hsl : sizes.length ≤ 16777216 := by omega
  have hlvl : lv.length ≤ 16777216 := by omega
  have hpdl : pds.length ≤ 16777216 := by omega
  have erb := rgB_nat hsl
  have etl : ts.length ≤ 16777216 := by omega
  by_cases hn1 : n4 = 1
  · obtain ⟨n5, l5, e7, g5, hn5⟩ := draw_e (m := 3) g4 (by decide) (by decide)
    obtain ⟨l6, a15, a16, a17, a18, a19, a20, a21, a22, ns', ps, a25, a26, es, e8, e9, g6, hpsl, hesl, hH⟩ := fin (1 + (n5 : Int)) l5 (by omega) (by omega) g5
    have e10 := hh_paths (lv := lv) (c0 := some ⟨.lst l6, 1⟩) (c1 := some ⟨nD sizes, 0⟩) (c2 := iC worths) (c3 := iC pay) (c4 := some ⟨.lst (ns'.map D.str), 1⟩) (c5 := some ⟨Box.d (sizes.map List.range), 0⟩) (c6 := none) (c7 := some ⟨hr.d, 0⟩) (c9 := some ⟨.tup (ts.map D.str), 0⟩) (c11 := some ⟨.lst (pds.map iD), 1⟩) (c12 := none) (c13 := some ⟨.int (1 + (n5 : Int)), 0⟩) (c14 := some ⟨.lst (ps.map Prsn.d), 1⟩) (c15 := a15) (c16 := a16) (c17 := a17) (c18 := a18) (c19 := a19) (c20 := a20) (c21 := a21) (c22 := a22) (c23 := none) (c24 := none) (c25 := none) (c26 := none)
    refine ⟨⟨ts, ps, es, (1 + (n5 : Int))⟩, hr, l6, ?_, g6, hH, hok, hm12, by simp only; omega⟩
    subst hn1
    generalize hfd : hr.d = fd at *
    generalize (prodL (sizes.map List.range)) = rows at *
    generalize sizes.map List.range = b at *
    simp (maxSteps := 1000000) -implicitDefEqProofs [c__law_heard_house, m__law_heard_house, law_pool_ok, ei, hsl, e1, et, e2, e3, hlvl, e4, e5, e6, e7, erb, rgD_nat', e8, e9, e10, erows, House.d]
  · have hn1' : ((n4 : Int) = 1) = False := eq_false (by omega)
    obtain ⟨l6, a15, a16, a17, a18, a19, a20, a21, a22, ns', ps, a25, a26, es, e8, e9, g6, hpsl, hesl, hH⟩ := fin 0 l4 (by decide) (by decide) g4
    have e10 := hh_paths (lv := lv) (c0 := some ⟨.lst l6, 1⟩) (c1 := some ⟨nD sizes, 0⟩) (c2 := iC worths) (c3 := iC pay) (c4 := some ⟨.lst (ns'.map D.str), 1⟩) (c5 := some ⟨Box.d (sizes.map List.range), 0⟩) (c6 := none) (c7 := some ⟨hr.d, 0⟩) (c9 := some ⟨.tup (ts.map D.str), 0⟩) (c11 := some ⟨.lst (pds.map iD), 1⟩) (c12 := none) (c13 := some ⟨.int 0, 0⟩) (c14 := some ⟨.lst (ps.map Prsn.d), 1⟩) (c15 := a15) (c16 := a16) (c17 := a17) (c18 := a18) (c19 := a19) (c20 := a20) (c21 := a21) (c22 := a22) (c23 := none) (c24 := none) (c25 := none) (c26 := none)
    refine ⟨⟨ts, ps, es, 0⟩, hr, l6, ?_, g6, hH, hok, hm12, by simp only; omega⟩
    generalize hfd : hr.d = fd at *
    generalize (prodL (sizes.map List.range)) = rows at *
    generalize sizes.map List.range = b at *
    simp (maxSteps := 1000000) -implicitDefEqProofs [c__law_heard_house, m__law_heard_house, law_pool_ok, ei, hsl, e1, et, e2, e3, hlvl, e4, e5, e6, hn1', erb, rgD_nat', e8, e9, e10, erows, House.d]
end S

/-! S: boxes inside the whole one; ends and values of rows. -/
namespace S
open Z PySem PySem.Spec PyProof.Rows L2
theorem small_nL : ∀ {r : List Nat}, (∀ x ∈ r, x ≤ 1000) → D.smallL (nL r) = true ∧ D.wtL (nL r) = 68 * r.length
  | [], _ => ⟨rfl, rfl⟩
  | x :: r, h => by
    have hx := h x (List.mem_cons_self ..)
    obtain ⟨a, b⟩ := small_nL (r := r) fun y hy => h y (List.mem_cons_of_mem _ hy)
    refine ⟨?_, ?_⟩
    · show (decide ((x : Int).natAbs < 2 ^ 60) && D.smallL (nL r)) = true
      rw [a, Bool.and_true, decide_eq_true_eq]
      omega
    · show 66 + 2 + D.wtL (nL r) = _
      rw [b, List.length_cons]; omega
/-- a box inside the whole one -/
structure BoxOf (b : Box) (sizes : List Nat) : Prop where
  len : b.length = sizes.length
  nd : ∀ q ∈ b, q.Nodup
  l8 : ∀ q ∈ b, q.length ≤ 8
  x8 : ∀ q ∈ b, ∀ x ∈ q, x < 8
theorem BoxOf.of {b : Box} {sizes : List Nat} (hs : SizesOk sizes) (h : BoxIn b (sizes.map List.range)) : BoxOf b sizes := by
  have key : ∀ q ∈ b, ∃ s ∈ sizes, q.Sublist (List.range s) := fun q hq => by
    obtain ⟨i, hi⟩ := List.mem_iff_getElem?.mp hq
    obtain ⟨hlt, _⟩ := List.getElem?_eq_some_iff.mp hi
    have hl := h.len
    rw [List.length_map] at hl
    have hsi : sizes[i]? = some (sizes[i]'(by omega)) := List.getElem?_eq_getElem (by omega)
    exact ⟨sizes[i]'(by omega), List.getElem_mem _, (h.sub i q (List.range (sizes[i]'(by omega))) hi (by simp [hsi])).1⟩
  refine ⟨by rw [h.len, List.length_map], fun q hq => ?_, fun q hq => ?_, fun q hq x hx => ?_⟩
  all_goals obtain ⟨s, hs2, hsub⟩ := key q hq
  · exact List.Nodup.sublist hsub List.nodup_range
  · have := hsub.length_le
    rw [List.length_range] at this
    have := (hs.s s hs2).2
    omega
  · have := List.mem_range.mp (hsub.subset hx)
    have := (hs.s s hs2).2
    omega
theorem BoxOf.ok {b : Box} {sizes : List Nat} (hs : SizesOk sizes) (h : BoxOf b sizes) : BoxOk b := ⟨by have := hs.n4; rw [h.len]; omega, h.l8⟩
theorem prod_small {b : Box} (hl : b.length ≤ 4) (h8 : ∀ q ∈ b, q.length ≤ 8) (hx : ∀ q ∈ b, ∀ x ∈ q, x < 8) : (prodL b).length ≤ 5000 ∧ ∀ r ∈ prodL b, r.length ≤ 8 ∧ ∀ x ∈ r, x ≤ 1000 := by
  refine ⟨?_, fun r hr => ⟨by rw [prodL_row hr]; omega, fun x hxr => ?_⟩⟩
  · have h1 := prodL_le h8
    have : 8 ^ b.length ≤ 8 ^ 4 := Nat.pow_le_pow_right (by decide) hl
    omega
  · have hp := prodL_mem.mp hr
    obtain ⟨q, hq, hxq⟩ : ∃ q ∈ b, x ∈ q := by
      clear hr h8 hx hl
      induction hp with
      | nil => simp at hxr
      | cons h _ ih =>
        rcases List.mem_cons.mp hxr with rfl | hxr
        · exact ⟨_, List.mem_cons_self .., h⟩
        · obtain ⟨q, hq, hx⟩ := ih hxr
          exact ⟨q, List.mem_cons_of_mem _ hq, hx⟩
    have := hx q hq x hxq
    omega
theorem HouseOk.person {h : House} {sizes : List Nat} (ho : HouseOk h sizes) {p : Nat} (hp : p < sizes.length) : PrsnOk sizes.length h.told.length p (sizes.getD p 0) (h.persons.getD p default) :=
  ho.prs p _ (by rw [← ho.np] at hp; simp [List.getElem?_eq_getElem hp])
theorem HouseOk.worth {h : House} {sizes : List Nat} (ho : HouseOk h sizes) {p k : Nat} (hp : p < sizes.length) (hk : k < (h.kinds p).length) : KindOk h.told.length ((h.kinds p).getD k default) :=
  (ho.person hp).kind _ (by show (h.kinds p).getD k default ∈ h.kinds p; simp [List.getElem?_eq_getElem hk])
/-! the number of a row -/
def numL : Nat → List Nat → List Nat → Nat
  | a, s :: ss, x :: xs => numL (a * s + x) ss xs
  | a, _, _ => a
theorem numL_nil {a : Nat} {xs : List Nat} : numL a [] xs = a := by cases xs <;> rfl
theorem numL_lt : ∀ {ss xs : List Nat} {a A : Nat}, xs.length = ss.length → (∀ i, i < ss.length → xs.getD i 0 < ss.getD i 0) → a < A → numL a ss xs < A * rowsN ss
  | [], [], a, A, _, _, h => by simpa [numL, rowsN] using h
  | [], _ :: _, _, _, h, _, _ => by simp at h
  | _ :: _, [], _, _, h, _, _ => by simp at h
  | s :: ss, x :: xs, a, A, hl, hx, h => by
    have h0 := hx 0 (by simp)
    simp only [List.getD_cons_zero] at h0
    have := numL_lt (ss := ss) (xs := xs) (a := a * s + x) (A := A * s) (by simpa using hl) (fun i hi => by
      have := hx (i + 1) (by simp; omega)
      simpa using this) (by
        have : (a + 1) * s ≤ A * s := Nat.mul_le_mul_right s h
        rw [Nat.add_mul, Nat.one_mul] at this
        omega)
    rw [numL]
    have e : rowsN (s :: ss) = s * rowsN ss := rfl
    rw [e, ← Nat.mul_assoc]
    exact this
def House.endAt (h : House) (sizes : List Nat) (row : Row) : End := h.ends.getD (numL 0 sizes row) default
section
variable {h : House} {sizes : List Nat} {row : Row}
theorem row_number_ok (ho : HouseOk h sizes) (hs : SizesOk sizes) (hr : row.length = sizes.length) : c_row_number [⟨h.d, 0⟩, ⟨nD row, 0⟩] = .ok (⟨.int ((numL 0 sizes row : Nat) : Int), 0⟩, [⟨h.d, 0⟩, ⟨nD row, 0⟩]) := by
  have h4 := hs.n4
  have hnp := ho.np
  obtain ⟨⟨a, c3⟩, e, k, hk, hkl, hN⟩ := for_rel (it := ⟨rgI sizes.length, none⟩) (g := gN 3) (body := b_row_number_1) (L := []) (ds := List.range sizes.length) (s := (0, none)) (fun (i : Nat) => D.int (i : Int))
    (fun s : Nat × Option Cell => [some ⟨h.d, 0⟩, some ⟨nD row, 0⟩, iC s.1, s.2])
    (fun r s => ∃ k, r = (List.range sizes.length).drop k ∧ k ≤ sizes.length ∧ numL s.1 (sizes.drop k) (row.drop k) = numL 0 sizes row) ⟨0, by simp, by omega, rfl⟩ (fun a r ⟨n, c3⟩ ⟨k, hk, hkl, hN⟩ => by
      have hlt : k < (List.range sizes.length).length := by
        have := congrArg List.length hk
        simp at this ⊢
        omega
      rw [List.drop_eq_getElem_cons hlt] at hk
      injection hk with ha hrr
      rw [List.getElem_range] at ha
      subst ha
      rw [List.length_range] at hlt
      have hpp : a < h.persons.length := by omega
      have hra : a < row.length := by omega
      have hnk := (ho.person hlt).nk
      have hsz := hs.s (sizes.getD a 0) (by simp [List.getElem?_eq_getElem hlt])
      have ek := kinds_of_ok (h := h) hpp
      have ekl : fLen [⟨.tup ((h.kinds a).map Kind.d), 0⟩] = .ok ⟨.int (sizes.getD a 0 : Nat), 0⟩ := by
        have : (h.kinds a).length = sizes.getD a 0 := hnk
        rw [← this]
        simp
      have ex : fIx [⟨nD row, 0⟩, ⟨.int (a : Int), 0⟩] = .ok ⟨.int (row.getD a 0 : Nat), 0⟩ := ixT (map_some hra)
      refine ⟨(n * sizes.getD a 0 + row.getD a 0, iC a), ?_, a + 1, hrr, by omega, ?_⟩
      · have em := p_mulR (i := (n : Int)) (j := (sizes.getD a 0 : Nat)) (k := 0) (k' := 0) ⟨by omega, by omega⟩
        have ei : iC (n * sizes.getD a 0 + row.getD a 0) = some ⟨.int ((n : Int) * (sizes.getD a 0 : Nat) + (row.getD a 0 : Nat)), 0⟩ := by
          show some _ = some _
          congr 2
        rw [ei]
        simp (maxSteps := 1000000) -implicitDefEqProofs [-List.getD_eq_getElem?_getD, step1, b_row_number_1, ek, ekl, em, ex]
      · rw [← hN, List.drop_eq_getElem_cons hlt, List.drop_eq_getElem_cons hra, numL]
        simp [List.getElem?_eq_getElem hlt, List.getElem?_eq_getElem hra])
  have hk2 : k = sizes.length := by
    have := congrArg List.length hk
    simp at this
    omega
  rw [hk2, List.drop_of_length_le (Nat.le_refl _), numL_nil] at hN
  simp only at hN e
  rw [hN, show iC 0 = some ⟨.int 0, 0⟩ from rfl] at e
  have ec : c_count_of [⟨h.d, 0⟩] = .ok (⟨.int (sizes.length : Int), 0⟩, [⟨h.d, 0⟩]) := by
    rw [← hnp]
    simp -implicitDefEqProofs [c_count_of, m_count_of, House.at2]
  simp (maxSteps := 1000000) -implicitDefEqProofs [c_row_number, m_row_number, ec, rgB_nat (show sizes.length ≤ 16777216 by omega), rgD_nat', e]
theorem law_end_ok (ho : HouseOk h sizes) (hs : SizesOk sizes) (hr : row.length = sizes.length) (hx : ∀ i, i < sizes.length → row.getD i 0 < sizes.getD i 0) : c__law_end [⟨h.d, 0⟩, ⟨nD row, 0⟩] = .ok (⟨(h.endAt sizes row).d, 0⟩, [⟨h.d, 0⟩, ⟨nD row, 0⟩]) := by
  have h4 := hs.n4
  have hnp := ho.np
  obtain ⟨⟨a, c3⟩, e, k, hk, hkl, hN⟩ := for_rel (it := ⟨rgI sizes.length, none⟩) (g := gN 3) (body := b__law_end_1) (L := []) (ds := List.range sizes.length) (s := (0, none)) (fun (i : Nat) => D.int (i : Int))
    (fun s : Nat × Option Cell => [some ⟨h.d, 0⟩, some ⟨nD row, 0⟩, iC s.1, s.2])
    (fun r s => ∃ k, r = (List.range sizes.length).drop k ∧ k ≤ sizes.length ∧ numL s.1 (sizes.drop k) (row.drop k) = numL 0 sizes row) ⟨0, by simp, by omega, rfl⟩ (fun a r ⟨n, c3⟩ ⟨k, hk, hkl, hN⟩ => by
      have hlt : k < (List.range sizes.length).length := by
        have := congrArg List.length hk
        simp at this ⊢
        omega
      rw [List.drop_eq_getElem_cons hlt] at hk
      injection hk with ha hrr
      rw [List.getElem_range] at ha
      subst ha
      rw [List.length_range] at hlt
      have hpp : a < h.persons.length := by omega
      have hra : a < row.length := by omega
      have hnk := (ho.person hlt).nk
      have hsz := hs.s (sizes.getD a 0) (by simp [List.getElem?_eq_getElem hlt])
      have ek : fIx [⟨(h.persons.getD a default).d, 0⟩, ⟨.int 1, 0⟩] = .ok ⟨.tup ((h.kinds a).map Kind.d), 0⟩ := Prsn.at1
      have ekl : fLen [⟨.tup ((h.kinds a).map Kind.d), 0⟩] = .ok ⟨.int (sizes.getD a 0 : Nat), 0⟩ := by
        have : (h.kinds a).length = sizes.getD a 0 := hnk
        rw [← this]
        simp
      have ex : fIx [⟨nD row, 0⟩, ⟨.int (a : Int), 0⟩] = .ok ⟨.int (row.getD a 0 : Nat), 0⟩ := ixT (map_some hra)
      refine ⟨(n * sizes.getD a 0 + row.getD a 0, iC a), ?_, a + 1, hrr, by omega, ?_⟩
      · have em := p_mulR (i := (n : Int)) (j := (sizes.getD a 0 : Nat)) (k := 0) (k' := 0) ⟨by omega, by omega⟩
        have ei : iC (n * sizes.getD a 0 + row.getD a 0) = some ⟨.int ((n : Int) * (sizes.getD a 0 : Nat) + (row.getD a 0 : Nat)), 0⟩ := by
          show some _ = some _
          congr 2
        rw [ei]
        simp (maxSteps := 1000000) -implicitDefEqProofs [-List.getD_eq_getElem?_getD, step1, b__law_end_1, House.at2, House.atP hpp, ek, ekl, em, ex]
      · rw [← hN, List.drop_eq_getElem_cons hlt, List.drop_eq_getElem_cons hra, numL]
        simp [List.getElem?_eq_getElem hlt, List.getElem?_eq_getElem hra])
  have hk2 : k = sizes.length := by
    have := congrArg List.length hk
    simp at this
    omega
  rw [hk2, List.drop_of_length_le (Nat.le_refl _), numL_nil] at hN
  simp only at hN e
  rw [hN, show iC 0 = some ⟨.int 0, 0⟩ from rfl] at e
  have hlt := numL_lt (a := 0) (A := 1) hr hx (by decide)
  rw [Nat.one_mul, ← ho.ne] at hlt
  have ee : fIx [⟨.tup (h.ends.map End.d), 0⟩, ⟨.int ((numL 0 sizes row : Nat) : Int), 0⟩] = .ok ⟨(h.endAt sizes row).d, 0⟩ := ixT (map_some hlt)
  have el : fLen [⟨nD row, 0⟩] = .ok ⟨.int (sizes.length : Int), 0⟩ := by
    have : fLen [⟨.tup (nL row), 0⟩] = .ok ⟨.int (row.length : Int), 0⟩ := by simp
    rw [hr] at this
    exact this
  simp (maxSteps := 1000000) -implicitDefEqProofs [c__law_end, m__law_end, el, rgB_nat (show sizes.length ≤ 16777216 by omega), rgD_nat', e, House.at3, ee]
theorem end_of_ok (ho : HouseOk h sizes) (hs : SizesOk sizes) (hr : row.length = sizes.length) (hx : ∀ i, i < sizes.length → row.getD i 0 < sizes.getD i 0) : c_end_of [⟨h.d, 0⟩, ⟨nD row, 0⟩] = .ok (⟨(h.endAt sizes row).d, 0⟩, [⟨h.d, 0⟩, ⟨nD row, 0⟩]) := by
  have hlt := numL_lt (a := 0) (A := 1) hr hx (by decide)
  rw [Nat.one_mul, ← ho.ne] at hlt
  have ee : fIx [⟨.tup (h.ends.map End.d), 0⟩, ⟨.int ((numL 0 sizes row : Nat) : Int), 0⟩] = .ok ⟨(h.endAt sizes row).d, 0⟩ := ixT (map_some hlt)
  simp (maxSteps := 1000000) -implicitDefEqProofs [c_end_of, m_end_of, row_number_ok ho hs hr, House.at3, ee]
theorem endAt_ok (ho : HouseOk h sizes) (hr : row.length = sizes.length) (hx : ∀ i, i < sizes.length → row.getD i 0 < sizes.getD i 0) : EndOk sizes.length h.told.length (h.endAt sizes row) := by
  have hlt := numL_lt (a := 0) (A := 1) hr hx (by decide)
  rw [Nat.one_mul, ← ho.ne] at hlt
  exact ho.en _ (by simp [House.endAt, List.getElem?_eq_getElem hlt])
theorem law_value_ok {p k j : Nat} {e : End} (hp : p < h.persons.length) (hk : k < (h.kinds p).length) (hj : j < (h.worths p k).length) (ho : e.out < (h.row p k j).length) (hpp : p < e.pays.length) :
    c__law_value [⟨h.d, 0⟩, ⟨.int (p : Int), 0⟩, ⟨.int (k : Int), 0⟩, ⟨.int (j : Int), 0⟩, ⟨e.d, 0⟩] = .ok (⟨.int (val (h.row p k j) p e), 0⟩, [⟨h.d, 0⟩, ⟨.int (p : Int), 0⟩, ⟨.int (k : Int), 0⟩, ⟨.int (j : Int), 0⟩, ⟨e.d, 0⟩]) := by
  have e1 : fIx [⟨(h.persons.getD p default).d, 0⟩, ⟨.int 1, 0⟩] = .ok ⟨.tup ((h.kinds p).map Kind.d), 0⟩ := Prsn.at1
  have e2 : fIx [⟨.tup ((h.kinds p).map Kind.d), 0⟩, ⟨.int (k : Int), 0⟩] = .ok ⟨((h.kinds p).getD k default).d, 0⟩ := ixT (map_some hk)
  have e3 : fIx [⟨((h.kinds p).getD k default).d, 0⟩, ⟨.int 1, 0⟩] = .ok ⟨.tup ((h.worths p k).map iD), 0⟩ := Kind.at1
  have e4 : fIx [⟨.tup ((h.worths p k).map iD), 0⟩, ⟨.int (j : Int), 0⟩] = .ok ⟨iD (h.row p k j), 0⟩ := ixT (map_some hj)
  simp (maxSteps := 1000000) -implicitDefEqProofs [-List.getD_eq_getElem?_getD, c__law_value, m__law_value, House.at2, House.atP hp, e1, e2, e3, e4, End.at0, End.at1, ix_iD ho, ix_iD hpp, val]
end
end S

namespace S
open Z PySem PySem.Spec PyProof.Rows L2
def prD (x : Int × Row) : D := .tup [.int x.1, nD x.2]
/-- the first of the least by a sign -/
def firstBy (s : Int) : Int × Row → List (Int × Row) → Int × Row
  | b, [] => b
  | b, x :: r => firstBy s (if s * x.1 < s * b.1 then x else b) r
theorem firstBy_mem {s : Int} : ∀ {b : Int × Row} {r : List (Int × Row)}, firstBy s b r = b ∨ firstBy s b r ∈ r
  | b, [] => .inl rfl
  | b, x :: r => by
    rw [firstBy]
    rcases firstBy_mem (s := s) (b := if s * x.1 < s * b.1 then x else b) (r := r) with h | h
    · rw [h]
      by_cases q : s * x.1 < s * b.1
      · rw [if_pos q]; exact .inr (List.mem_cons_self ..)
      · rw [if_neg q]; exact .inl rfl
    · exact .inr (List.mem_cons_of_mem _ h)
theorem firstBy_self {s : Int} {b : Int × Row} {r : List (Int × Row)} : firstBy s b (b :: r) = firstBy s b r := by
  rw [firstBy, if_neg (by omega)]
theorem pr_at0 {x : Int × Row} {k k' : Nat} : fIx [⟨prD x, k⟩, ⟨.int 0, k'⟩] = .ok ⟨.int x.1, 0⟩ := ixT0
def flStep (s : Int) (st : (Int × Row) × Option Cell) (x : Int × Row) : (Int × Row) × Option Cell := (if s * x.1 < s * st.1.1 then x else st.1, some ⟨prD x, 0⟩)
theorem flStep_fold {s : Int} : ∀ {l : List (Int × Row)} {b : Int × Row} {c : Option Cell}, (l.foldl (flStep s) (b, c)).1 = firstBy s b l
  | [], _, _ => rfl
  | x :: l, b, c => by rw [List.foldl_cons, flStep, flStep_fold, firstBy]
theorem first_least_ok {b : Int × Row} {r : List (Int × Row)} : c_first_least [⟨.lst ((b :: r).map prD), 1⟩] = .ok (⟨prD (firstBy (1) b r), 0⟩, [⟨.lst ((b :: r).map prD), 1⟩]) := by
  have key := for_fold (it := ⟨(b :: r).map prD, some 0⟩) (g := gN 2) (body := b_first_least_1) (L := [0, 0]) prD (fun s : (Int × Row) × Option Cell => [some ⟨.lst ((b :: r).map prD), 1⟩, some ⟨prD s.1, 0⟩, s.2]) (flStep (1)) (fun _ _ => True) (ds := b :: r) (s := (b, none)) trivial (fun a rest s _ => by
    refine ⟨?_, trivial⟩
    by_cases h : a.1 < s.1.1
    · have h' : ((1) * a.1 < (1) * s.1.1) = True := eq_true (by omega)
      simp (maxSteps := 1000000) -implicitDefEqProofs [-Int.one_mul, -Int.neg_mul, step1, flStep, b_first_least_1, pr_at0, h, h']
    · have h' : ((1) * a.1 < (1) * s.1.1) = False := eq_false (by omega)
      simp (maxSteps := 1000000) -implicitDefEqProofs [-Int.one_mul, -Int.neg_mul, step1, flStep, b_first_least_1, pr_at0, h, h'])
  have hb := flStep_fold (s := 1) (l := b :: r) (b := b) (c := none)
  rw [firstBy_self] at hb
  obtain ⟨e, _⟩ := key
  generalize (b :: r).foldl (flStep (1)) (b, none) = st at *
  obtain ⟨x, c2⟩ := st
  simp only at hb e
  subst hb
  have ex : fIx [⟨.lst ((b :: r).map prD), 1⟩, ⟨.int 0, 0⟩] = .ok ⟨prD b, 0⟩ := ixL (i := 0) (by omega) rfl
  generalize (b :: r).map prD = l at *
  simp (maxSteps := 1000000) -implicitDefEqProofs [c_first_least, m_first_least, ex, e]
theorem first_greatest_ok {b : Int × Row} {r : List (Int × Row)} : c_first_greatest [⟨.lst ((b :: r).map prD), 1⟩] = .ok (⟨prD (firstBy (-1) b r), 0⟩, [⟨.lst ((b :: r).map prD), 1⟩]) := by
  have key := for_fold (it := ⟨(b :: r).map prD, some 0⟩) (g := gN 2) (body := b_first_greatest_1) (L := [0, 0]) prD (fun s : (Int × Row) × Option Cell => [some ⟨.lst ((b :: r).map prD), 1⟩, some ⟨prD s.1, 0⟩, s.2]) (flStep (-1)) (fun _ _ => True) (ds := b :: r) (s := (b, none)) trivial (fun a rest s _ => by
    refine ⟨?_, trivial⟩
    by_cases h : s.1.1 < a.1
    · have h' : ((-1) * a.1 < (-1) * s.1.1) = True := eq_true (by omega)
      simp (maxSteps := 1000000) -implicitDefEqProofs [-Int.one_mul, -Int.neg_mul, step1, flStep, b_first_greatest_1, pr_at0, h, h']
    · have h' : ((-1) * a.1 < (-1) * s.1.1) = False := eq_false (by omega)
      simp (maxSteps := 1000000) -implicitDefEqProofs [-Int.one_mul, -Int.neg_mul, step1, flStep, b_first_greatest_1, pr_at0, h, h'])
  have hb := flStep_fold (s := -1) (l := b :: r) (b := b) (c := none)
  rw [firstBy_self] at hb
  obtain ⟨e, _⟩ := key
  generalize (b :: r).foldl (flStep (-1)) (b, none) = st at *
  obtain ⟨x, c2⟩ := st
  simp only at hb e
  subst hb
  have ex : fIx [⟨.lst ((b :: r).map prD), 1⟩, ⟨.int 0, 0⟩] = .ok ⟨prD b, 0⟩ := ixL (i := 0) (by omega) rfl
  generalize (b :: r).map prD = l at *
  simp (maxSteps := 1000000) -implicitDefEqProofs [c_first_greatest, m_first_greatest, ex, e]
section
variable {h : House} {sizes : List Nat} {p k j : Nat}
def rowV (h : House) (sizes : List Nat) (p k j : Nat) (r : Row) : Int × Row := (val (h.row p k j) p (h.endAt sizes r), r)
structure RowOk (sizes : List Nat) (r : Row) : Prop where
  len : r.length = sizes.length
  lt : ∀ i, i < sizes.length → r.getD i 0 < sizes.getD i 0
structure PkOk (h : House) (sizes : List Nat) (p k j : Nat) : Prop where
  ho : HouseOk h sizes
  hs : SizesOk sizes
  p1 : p < sizes.length
  k1 : k < (h.kinds p).length
  j1 : j < (h.worths p k).length
theorem PkOk.pp (o : PkOk h sizes p k j) : p < h.persons.length := by rw [o.ho.np]; exact o.p1
theorem PkOk.row (o : PkOk h sizes p k j) : (h.row p k j).length = h.told.length ∧ ∀ i ∈ h.row p k j, Bd i := by
  have hw := (o.ho.worth o.p1 o.k1).row (h.row p k j)
  have hm : h.row p k j ∈ ((h.kinds p).getD k default).worths := by
    have := o.j1
    have hg : ∀ l : List (List Int), j < l.length → l.getD j [] ∈ l := fun l hl => by
      rw [List.getD_eq_getElem?_getD, List.getElem?_eq_getElem hl]
      exact List.getElem_mem _
    exact hg _ this
  exact hw hm
theorem PkOk.end_ (o : PkOk h sizes p k j) {r : Row} (hr : RowOk sizes r) : (h.endAt sizes r).out < (h.row p k j).length ∧ p < (h.endAt sizes r).pays.length := by
  have he := endAt_ok o.ho hr.len hr.lt
  have := he.out
  have := he.len
  have := o.p1
  rw [o.row.1]
  exact ⟨by omega, by omega⟩
theorem valued_rows_ok (o : PkOk h sizes p k j) {rows : List Row} (hr : ∀ r ∈ rows, RowOk sizes r) (hl : rows.length ≤ 5000) : c_valued_rows [⟨h.d, 0⟩, ⟨.tup (rows.map nD), 0⟩, ⟨.int (p : Int), 0⟩, ⟨.int (k : Int), 0⟩, ⟨.int (j : Int), 0⟩] =
    .ok (⟨.lst ((rows.map (rowV h sizes p k j)).map prD), 1⟩, [⟨h.d, 0⟩, ⟨.tup (rows.map nD), 0⟩, ⟨.int (p : Int), 0⟩, ⟨.int (k : Int), 0⟩, ⟨.int (j : Int), 0⟩]) := by
  have e := comp_m (it := ⟨rows.map nD, none⟩) (g := gN 5) (tt := mYes) (me := e_valued_rows_1) (vs := [5]) (ρ := [some ⟨h.d, 0⟩, some ⟨.tup (rows.map nD), 0⟩, iC p, iC k, iC j, none]) nD (fun r => prD (rowV h sizes p k j r)) (ds := rows) (fun r hrm => by
    have hro := hr r hrm
    obtain ⟨e1, e2⟩ := o.end_ hro
    have ee := end_of_ok o.ho o.hs hro.len hro.lt
    have ev := value_of_ok (h := h) (p := p) (k := k) (j := j) (e := h.endAt sizes r) o.pp o.k1 o.j1 e1 e2
    simp (maxSteps := 1000000) -implicitDefEqProofs [comp1, e_valued_rows_1, ee, ev, prD, rowV])
  rw [List.map_map]
  simp (maxSteps := 1000000) -implicitDefEqProofs [c_valued_rows, m_valued_rows, show rows.length ≤ 16777216 by omega, e]
def oD : Option (Int × Row) → D
  | none => .non
  | some x => prD x
def oStep (s : Int) (o : Option (Int × Row)) (x : Int × Row) : Option (Int × Row) := match o with
  | none => some x
  | some b => some (if s * x.1 < s * b.1 then x else b)
theorem oStep_fold {s : Int} : ∀ {l : List (Int × Row)} {b : Int × Row}, l.foldl (oStep s) (some b) = some (firstBy s b l)
  | [], b => rfl
  | x :: l, b => by rw [List.foldl_cons, oStep, oStep_fold, firstBy]
def foStep (h : House) (sizes : List Nat) (p k j : Nat) (s : Int) (st : Option (Int × Row) × Option Cell × Option Cell) (r : Row) : Option (Int × Row) × Option Cell × Option Cell := (oStep s st.1 (rowV h sizes p k j r), some ⟨nD r, 0⟩, some ⟨.int (rowV h sizes p k j r).1, 0⟩)
theorem foStep_fold {s : Int} : ∀ {l : List Row} {o : Option (Int × Row)} {a b : Option Cell}, (l.foldl (foStep h sizes p k j s) (o, a, b)).1 = (l.map (rowV h sizes p k j)).foldl (oStep s) o
  | [], _, _, _ => rfl
  | x :: l, o, a, b => by rw [List.foldl_cons, foStep, foStep_fold, List.map_cons, List.foldl_cons]
theorem law_first_of_ok (o : PkOk h sizes p k j) {rows : List Row} (hr : ∀ r ∈ rows, RowOk sizes r) (hl : rows.length ≤ 5000) {s : Int} (hs : -1 ≤ s ∧ s ≤ 1) : c__law_first_of [⟨h.d, 0⟩, ⟨.lst (rows.map nD), 1⟩, ⟨.int (p : Int), 0⟩, ⟨.int (k : Int), 0⟩, ⟨.int (j : Int), 0⟩, ⟨.int s, 0⟩] =
    .ok (⟨oD ((rows.map (rowV h sizes p k j)).foldl (oStep s) none), 0⟩, [⟨h.d, 0⟩, ⟨.lst (rows.map nD), 1⟩, ⟨.int (p : Int), 0⟩, ⟨.int (k : Int), 0⟩, ⟨.int (j : Int), 0⟩, ⟨.int s, 0⟩]) := by
  obtain ⟨e, _⟩ := for_fold (it := ⟨rows.map nD, some 1⟩) (g := gN 7) (body := b__law_first_of_1) (L := [1, 1]) nD (fun st : Option (Int × Row) × Option Cell × Option Cell => [some ⟨h.d, 0⟩, some ⟨.lst (rows.map nD), 1⟩, iC p, iC k, iC j, some ⟨.int s, 0⟩, some ⟨oD st.1, 0⟩, st.2.1, st.2.2])
    (foStep h sizes p k j s) (fun rest _ => ∀ r ∈ rest, RowOk sizes r) (ds := rows) (s := (none, none, none)) hr (fun r rest st hrs => by
      have hro := hrs r (List.mem_cons_self ..)
      refine ⟨?_, fun x hx => hrs x (List.mem_cons_of_mem _ hx)⟩
      obtain ⟨e1, e2⟩ := o.end_ hro
      have ee := law_end_ok o.ho o.hs hro.len hro.lt
      have ev := law_value_ok (h := h) (p := p) (k := k) (j := j) (e := h.endAt sizes r) o.pp o.k1 o.j1 e1 e2
      obtain ⟨st1, st2, st3⟩ := st
      have em : ∀ x : Int, fMul [⟨.int s, 0⟩, ⟨.int x, 0⟩] = .ok ⟨.int (s * x), 0⟩ := fun x => p_mulL (i := s) ⟨by omega, by omega⟩
      have hrv : (rowV h sizes p k j r).1 = val (h.row p k j) p (h.endAt sizes r) := rfl
      have hpr : D.tup [.int (val (h.row p k j) p (h.endAt sizes r)), nD r] = prD (rowV h sizes p k j r) := rfl
      cases st1 with
      | none => simp (maxSteps := 1000000) -implicitDefEqProofs [step1, foStep, b__law_first_of_1, ee, ev, oD, oStep, hpr, hrv]
      | some b =>
        have isn : fIsN [⟨prD b, 0⟩, ⟨.non, 0⟩] = .ok ⟨.bl false, 0⟩ := rfl
        by_cases hlt : s * val (h.row p k j) p (h.endAt sizes r) < s * b.1
        · simp (maxSteps := 1000000) -implicitDefEqProofs [step1, foStep, b__law_first_of_1, ee, ev, oD, oStep, hpr, hrv, em, pr_at0, isn, hlt]
        · simp (maxSteps := 1000000) -implicitDefEqProofs [step1, foStep, b__law_first_of_1, ee, ev, oD, oStep, hpr, hrv, em, pr_at0, isn, hlt])
  have hb := foStep_fold (h := h) (sizes := sizes) (p := p) (k := k) (j := j) (s := s) (l := rows) (o := none) (a := none) (b := none)
  generalize rows.foldl (foStep h sizes p k j s) (none, none, none) = st at *
  obtain ⟨x, c2, c3⟩ := st
  simp only at hb e
  subst hb
  rw [show oD none = .non from rfl] at e
  simp (maxSteps := 1000000) -implicitDefEqProofs [c__law_first_of, m__law_first_of, e]
end
end S

namespace S
open Z PySem PySem.Spec PyProof.Rows L2
theorem narrowTo_getD : ∀ {w : List Nat} {c : Row} {b : Box} {p : Nat}, p ∉ w → (narrowTo b w c).getD p [] = b.getD p []
  | [], _, _, _, _ => by simp [narrowTo]
  | _ :: _, [], _, _, _ => by simp [narrowTo]
  | o :: w, c :: r, b, p, h => by
    rw [narrowTo, narrowTo_getD (by simp at h; exact h.2), getD_set_ne' (by simp at h; exact h.1)]
theorem narrowTo_l8 : ∀ {w : List Nat} {c : Row} {b : Box}, (∀ q ∈ b, q.length ≤ 8) → ∀ q ∈ narrowTo b w c, q.length ≤ 8
  | [], _, _, h => by simpa [narrowTo] using h
  | _ :: _, [], _, h => by simpa [narrowTo] using h
  | o :: w, x :: r, b, h => by
    rw [narrowTo]
    exact narrowTo_l8 fun q hq => by
      rcases List.mem_or_eq_of_mem_set hq with z | z
      · exact h q z
      · rw [z]; simp
/-- the rows of a case where the person says the word -/
def sayRows (b : Box) (w : List Nat) (c : Row) (p x : Nat) : List Row := ((prodL b).filter fun r => decide (caseR w r = c)).filter fun r => decide (r.getD p 0 = x)
structure CaseOk (h : House) (b : Box) (sizes : List Nat) (p : Nat) (c : Row) : Prop where
  ho : HouseOk h sizes
  hs : SizesOk sizes
  bo : BoxOf b sizes
  bin : BoxIn b (sizes.map List.range)
  p1 : p < sizes.length
  ce : Paired (fun x q => x ∈ q) c (caseBox b (h.watch p))
section
variable {h : House} {b : Box} {sizes : List Nat} {p : Nat} {c : Row}
theorem CaseOk.wat (o : CaseOk h b sizes p c) : (h.watch p).Nodup ∧ (∀ x ∈ h.watch p, x < b.length) ∧ p ∉ h.watch p ∧ (h.watch p).length ≤ 4 := by
  have hpr := o.ho.person o.p1
  have hwp : (h.watch p).Pairwise (· < ·) := hpr.asc
  have hwat : ∀ o ∈ h.watch p, o < sizes.length ∧ o ≠ p := hpr.wat
  have h4 := o.hs.n4
  refine ⟨hwp.imp (fun {a b} z => by omega), fun x hx => by have := (hwat x hx).1; rw [o.bo.len]; exact this, fun z => (hwat p z).2 rfl, ?_⟩
  have := asc_length (a := 0) (n := sizes.length) hwp fun o hO => ⟨Nat.zero_le _, (hwat o hO).1⟩
  omega
theorem rows_saying_ok (o : CaseOk h b sizes p c) {x : Nat} (hx : x ∈ b.getD p []) : c_rows_saying [⟨h.d, 0⟩, ⟨Box.d b, 0⟩, ⟨.int (p : Int), 0⟩, ⟨nD c, 0⟩, ⟨.int (x : Int), 0⟩] =
    .ok (⟨.tup ((sayRows b (h.watch p) c p x).map nD), 0⟩, [⟨h.d, 0⟩, ⟨Box.d b, 0⟩, ⟨.int (p : Int), 0⟩, ⟨nD c, 0⟩, ⟨.int (x : Int), 0⟩]) := by
  obtain ⟨w1, w2, w3, w4⟩ := o.wat
  have hpp : p < h.persons.length := by rw [o.ho.np]; exact o.p1
  have hpb : p < b.length := by rw [o.bo.len]; exact o.p1
  have h4 := o.hs.n4
  have hbl : b.length ≤ 4 := by rw [o.bo.len]; exact h4
  have hcl : c.length = (h.watch p).length := by
    have := pr_len o.ce
    simpa [caseBox] using this
  have e1 := case_box_ok (h := h) (b := b) (p := p) (c := c) hpp w2 hcl (by omega) (by omega)
  have hnl : (narrowTo b (h.watch p) c).length = b.length := narrowTo_len
  have e2 := narrowed_ok (bs := (narrowTo b (h.watch p) c).map nD) (l := [.int (x : Int)]) (p := p) (by rw [List.length_map, hnl]; exact hpb) (by rw [List.length_map]; omega)
  have e3 : D.tup (((narrowTo b (h.watch p) c).map nD).set p (.tup [.int (x : Int)])) = Box.d ((narrowTo b (h.watch p) c).set p [x]) := by
    unfold Box.d
    rw [List.map_set]
    rfl
  rw [e3] at e2
  have e4 : D.tup ((narrowTo b (h.watch p) c).map nD) = Box.d (narrowTo b (h.watch p) c) := rfl
  rw [e4] at e2
  have hg := narrowTo_getD (w := h.watch p) (c := c) (b := b) (p := p) w3
  have hnd : (b.getD p []).Nodup := o.bo.nd _ (getD_mem' hpb)
  have e5 := rows_of_box (b := (narrowTo b (h.watch p) c).set p [x]) ⟨by simp; omega, fun q hq => by
    rcases List.mem_or_eq_of_mem_set hq with z | z
    · exact narrowTo_l8 o.bo.l8 q z
    · rw [z]; simp⟩
  rw [prod_set (b := narrowTo b (h.watch p) c) (o := p) (x := x) (by omega) (by rw [hg]; exact hx) (by rw [hg]; exact hnd), prod_narrow (b := b) hcl.symm w1 w2 o.bo.nd o.ce] at e5
  have e6 : ((prodL b).filter fun r => decide (caseR (h.watch p) r = c)).filter (fun r => decide (r.getD p 0 = x)) = sayRows b (h.watch p) c p x := rfl
  rw [e6] at e5
  simp (maxSteps := 1000000) -implicitDefEqProofs [c_rows_saying, m_rows_saying, e1, e2, e5]
end
end S

namespace S
open Z PySem PySem.Spec PyProof.Rows L2
section
variable {h : House} {b : Box} {sizes : List Nat} {p k j : Nat} {c : Row}
theorem rowOk_of (hs : SizesOk sizes) (hb : BoxIn b (sizes.map List.range)) {r : Row} (hr : r ∈ prodL b) : RowOk sizes r := by
  obtain ⟨h1, h2⟩ := row_in hr
  have hl := hb.len
  rw [List.length_map] at hl
  refine ⟨by omega, fun i hi => ?_⟩
  have h3 := h2 i (by omega)
  have h4 := (hb.sub i (b.getD i []) (List.range (sizes.getD i 0)) (by simp [List.getElem?_eq_getElem (show i < b.length by omega)]) (by simp [List.getElem?_eq_getElem hi])).1
  exact List.mem_range.mp (h4.subset h3)
theorem say_mem {w : List Nat} {x : Nat} {r : Row} (hr : r ∈ sayRows b w c p x) : r ∈ prodL b := by
  unfold sayRows at hr
  exact (List.mem_filter.mp (List.mem_filter.mp hr).1).1
theorem prod_ne {b : Box} (h : ∀ q ∈ b, q ≠ []) : prodL b ≠ [] := by
  intro z
  have hl := prodL_length b
  rw [z] at hl
  have : ∀ l : List Nat, (∀ x ∈ l, 0 < x) → 0 < l.foldr (· * ·) 1 := by
    intro l
    induction l with
    | nil => intro _; simp
    | cons a r ih =>
      intro h
      rw [List.foldr_cons]
      exact Nat.mul_pos (h a (List.mem_cons_self ..)) (ih fun x hx => h x (List.mem_cons_of_mem _ hx))
  have := this (b.map List.length) fun x hx => by
    obtain ⟨q, hq, rfl⟩ := List.mem_map.mp hx
    exact List.length_pos_iff.mpr (h q hq)
  simp at hl
  omega
theorem narrowTo_ne : ∀ {w : List Nat} {c : Row} {b : Box}, (∀ q ∈ b, q ≠ []) → ∀ q ∈ narrowTo b w c, q ≠ []
  | [], _, _, h => by simpa [narrowTo] using h
  | _ :: _, [], _, h => by simpa [narrowTo] using h
  | o :: w, x :: r, b, h => by
    rw [narrowTo]
    exact narrowTo_ne fun q hq => by
      rcases List.mem_or_eq_of_mem_set hq with z | z
      · exact h q z
      · rw [z]; simp
theorem CaseOk.bne (o : CaseOk h b sizes p c) : ∀ q ∈ b, q ≠ [] := fun q hq => by
  obtain ⟨i, hi⟩ := List.mem_iff_getElem?.mp hq
  obtain ⟨hlt, _⟩ := List.getElem?_eq_some_iff.mp hi
  have hl := o.bo.len
  have hi2 : i < sizes.length := by omega
  exact (o.bin.sub i q (List.range sizes[i]) hi (by simp [List.getElem?_eq_getElem hi2])).2
theorem say_ne (o : CaseOk h b sizes p c) {x : Nat} (hx : x ∈ b.getD p []) : sayRows b (h.watch p) c p x ≠ [] := by
  obtain ⟨w1, w2, w3, w4⟩ := o.wat
  have hpb : p < b.length := by rw [o.bo.len]; exact o.p1
  have hcl : c.length = (h.watch p).length := by
    have := pr_len o.ce
    simpa [caseBox] using this
  have hnl : (narrowTo b (h.watch p) c).length = b.length := narrowTo_len
  have hg := narrowTo_getD (w := h.watch p) (c := c) (b := b) (p := p) w3
  have hnd : (b.getD p []).Nodup := o.bo.nd _ (getD_mem' hpb)
  have e := prod_set (b := narrowTo b (h.watch p) c) (o := p) (x := x) (by omega) (by rw [hg]; exact hx) (by rw [hg]; exact hnd)
  rw [prod_narrow (b := b) hcl.symm w1 w2 o.bo.nd o.ce] at e
  show ((prodL b).filter fun r => decide (caseR (h.watch p) r = c)).filter (fun r => decide (r.getD p 0 = x)) ≠ []
  rw [← e]
  refine prod_ne fun q hq => ?_
  rcases List.mem_or_eq_of_mem_set hq with z | z
  · exact narrowTo_ne o.bne q z
  · rw [z]; simp
/-- the first of the rows by value -/
def dueD (h : House) (sizes : List Nat) (p k j : Nat) (s : Int) (rows : List Row) : D := oD ((rows.map (rowV h sizes p k j)).foldl (oStep s) none)
theorem due_cons {s : Int} {r : Row} {rows : List Row} : dueD h sizes p k j s (r :: rows) = prD (firstBy s (rowV h sizes p k j r) (rows.map (rowV h sizes p k j))) := by
  unfold dueD
  rw [List.map_cons, List.foldl_cons, oStep, oStep_fold]
  rfl
theorem say_len (o : CaseOk h b sizes p c) {w : List Nat} {x : Nat} : (sayRows b w c p x).length ≤ 5000 := by
  have h4 := o.hs.n4
  have h1 := (prod_small (b := b) (by rw [o.bo.len]; exact h4) o.bo.l8 o.bo.x8).1
  have h2 := List.length_filter_le (fun r : Row => decide (r.getD p 0 = x)) ((prodL b).filter fun r => decide (caseR w r = c))
  have h3 := List.length_filter_le (fun r : Row => decide (caseR w r = c)) (prodL b)
  unfold sayRows
  omega
theorem worst_truth_ok (o : CaseOk h b sizes p c) (q : PkOk h sizes p k j) (hk : k ∈ b.getD p []) : c_worst_truth [⟨h.d, 0⟩, ⟨Box.d b, 0⟩, ⟨.int (p : Int), 0⟩, ⟨.int (k : Int), 0⟩, ⟨.int (j : Int), 0⟩, ⟨nD c, 0⟩] =
    .ok (⟨dueD h sizes p k j 1 (sayRows b (h.watch p) c p k), 0⟩, [⟨h.d, 0⟩, ⟨Box.d b, 0⟩, ⟨.int (p : Int), 0⟩, ⟨.int (k : Int), 0⟩, ⟨.int (j : Int), 0⟩, ⟨nD c, 0⟩]) := by
  have e1 := rows_saying_ok o hk
  have e2 := valued_rows_ok q (rows := sayRows b (h.watch p) c p k) (fun r hr => rowOk_of o.hs o.bin (say_mem hr)) (say_len o)
  have hne := say_ne o hk
  generalize sayRows b (h.watch p) c p k = rows at *
  cases rows with
  | nil => exact absurd rfl hne
  | cons r rows =>
    have e3 := first_least_ok (b := rowV h sizes p k j r) (r := rows.map (rowV h sizes p k j))
    rw [← List.map_cons] at e3
    rw [due_cons]
    generalize ((r :: rows).map (rowV h sizes p k j)).map prD = ps at *
    generalize (r :: rows).map nD = ns at *
    simp (maxSteps := 1000000) -implicitDefEqProofs [c_worst_truth, m_worst_truth, e1, e2, e3]
theorem best_lie_ok (o : CaseOk h b sizes p c) (q : PkOk h sizes p k j) {x : Nat} (hk : x ∈ b.getD p []) : c_best_lie [⟨h.d, 0⟩, ⟨Box.d b, 0⟩, ⟨.int (p : Int), 0⟩, ⟨.int (k : Int), 0⟩, ⟨.int (x : Int), 0⟩, ⟨.int (j : Int), 0⟩, ⟨nD c, 0⟩] =
    .ok (⟨dueD h sizes p k j (-1) (sayRows b (h.watch p) c p x), 0⟩, [⟨h.d, 0⟩, ⟨Box.d b, 0⟩, ⟨.int (p : Int), 0⟩, ⟨.int (k : Int), 0⟩, ⟨.int (x : Int), 0⟩, ⟨.int (j : Int), 0⟩, ⟨nD c, 0⟩]) := by
  have e1 := rows_saying_ok o hk
  have e2 := valued_rows_ok q (rows := sayRows b (h.watch p) c p x) (fun r hr => rowOk_of o.hs o.bin (say_mem hr)) (say_len o)
  have hne := say_ne o hk
  generalize sayRows b (h.watch p) c p x = rows at *
  cases rows with
  | nil => exact absurd rfl hne
  | cons r rows =>
    have e3 := first_greatest_ok (b := rowV h sizes p k j r) (r := rows.map (rowV h sizes p k j))
    rw [← List.map_cons] at e3
    rw [due_cons]
    generalize ((r :: rows).map (rowV h sizes p k j)).map prD = ps at *
    generalize (r :: rows).map nD = ns at *
    simp (maxSteps := 1000000) -implicitDefEqProofs [c_best_lie, m_best_lie, e1, e2, e3]
theorem due_repr (o : CaseOk h b sizes p c) (q : PkOk h sizes p k j) {rows : List Row} (hne : rows ≠ []) (hr : ∀ r ∈ rows, r ∈ prodL b) {s : Int} : fRepr [⟨dueD h sizes p k j s rows, 0⟩] = .ok ⟨(dueD h sizes p k j s rows).rp, 0⟩ ∧ (dueD h sizes p k j s rows).small = true := by
  cases rows with
  | nil => exact absurd rfl hne
  | cons r rows =>
    rw [due_cons]
    have hm : ∃ r', r' ∈ prodL b ∧ firstBy s (rowV h sizes p k j r) (rows.map (rowV h sizes p k j)) = rowV h sizes p k j r' := by
      rcases firstBy_mem (s := s) (b := rowV h sizes p k j r) (r := rows.map (rowV h sizes p k j)) with z | z
      · exact ⟨r, hr r (List.mem_cons_self ..), z⟩
      · obtain ⟨r', h1, h2⟩ := List.mem_map.mp z
        exact ⟨r', hr r' (List.mem_cons_of_mem _ h1), h2.symm⟩
    obtain ⟨r', h1, h2⟩ := hm
    rw [h2]
    have h4 := o.hs.n4
    obtain ⟨h5, h6⟩ := (prod_small (b := b) (by rw [o.bo.len]; exact h4) o.bo.l8 o.bo.x8).2 r' h1
    obtain ⟨h7, h8⟩ := small_nL h6
    have hro := rowOk_of o.hs o.bin h1
    obtain ⟨g1, g2⟩ := q.end_ hro
    have hbd : Bd ((h.row p k j).getD (h.endAt sizes r').out 0) := q.row.2 _ (by simp [List.getElem?_eq_getElem g1])
    have hbe : Bd ((h.endAt sizes r').pays.getD p 0) := (endAt_ok o.ho hro.len hro.lt).bd _ (by simp [List.getElem?_eq_getElem g2])
    have hv : (val (h.row p k j) p (h.endAt sizes r')).natAbs < 2 ^ 60 := by
      unfold val
      unfold Bd at hbd hbe
      generalize (h.row p k j).getD _ _ = x at *
      generalize (h.endAt sizes r').pays.getD _ _ = y at *
      omega
    have hsm : (prD (rowV h sizes p k j r')).small = true := by
      show (decide ((val (h.row p k j) p (h.endAt sizes r')).natAbs < 2 ^ 60) && (D.smallL (nL r') && true)) = true
      rw [h7, decide_eq_true hv]
      rfl
    refine ⟨f_reprR ?_ hsm ?_, hsm⟩
    · refine D.pl_okd _ _ ?_
      show ([D.int _, nD r'] : List D).all (D.pl 59) = true
      rw [List.all_eq_true]
      intro d hd
      simp only [List.mem_cons, List.not_mem_nil, or_false] at hd
      rcases hd with rfl | rfl
      · simp [D.pl]
      · exact nD_pl
    · show (66 + 2 + ((D.wtL (nL r') + 4) + 2 + 0)) + 4 ≤ _
      rw [h8]
      omega
end
end S

namespace S
open Z PySem PySem.Spec PyProof.Rows L2
section
variable {h : House} {b : Box} {sizes : List Nat} {p k : Nat} {c : Row}
theorem law_case_right_ok (o : CaseOk h b sizes p c) (hk : k ∈ b.getD p []) {l : List D} (hd : DSl l) :
    ∃ l', c__law_case_right [⟨.lst l, 1⟩, ⟨h.d, 0⟩, ⟨Box.d b, 0⟩, ⟨.int (p : Int), 0⟩, ⟨.int (k : Int), 0⟩, ⟨nD c, 0⟩] = .ok (⟨.bl true, 0⟩, [⟨.lst l', 1⟩, ⟨h.d, 0⟩, ⟨Box.d b, 0⟩, ⟨.int (p : Int), 0⟩, ⟨.int (k : Int), 0⟩, ⟨nD c, 0⟩]) ∧ DSl l' := by
  obtain ⟨w1, w2, w3, w4⟩ := o.wat
  have h4 := o.hs.n4
  have hpp : p < h.persons.length := by rw [o.ho.np]; exact o.p1
  have hpb : p < b.length := by rw [o.bo.len]; exact o.p1
  have hbl : b.length ≤ 4 := by rw [o.bo.len]; exact h4
  have hsz := o.hs.s (sizes.getD p 0) (by simp [List.getElem?_eq_getElem o.p1])
  have hnk : (h.kinds p).length = sizes.getD p 0 := (o.ho.person o.p1).nk
  have hkk : k < (h.kinds p).length := by
    have hl := o.bin.len
    rw [List.length_map] at hl
    have := (o.bin.sub p (b.getD p []) (List.range (sizes.getD p 0)) (by simp [List.getElem?_eq_getElem hpb]) (by simp [List.getElem?_eq_getElem o.p1])).1
    have := List.mem_range.mp (this.subset hk)
    omega
  have hko := o.ho.worth o.p1 hkk
  have hwn : 1 ≤ (h.worths p k).length ∧ (h.worths p k).length ≤ 3 := ⟨hko.n1, hko.n3⟩
  obtain ⟨jw, l1, e1, g1, hj⟩ := drawN_e (m := (h.worths p k).length) hd (by omega) (by omega)
  have q : PkOk h sizes p k jw := ⟨o.ho, o.hs, o.p1, hkk, hj⟩
  have er := law_rows_box (b := b) (k := 0) (c := Box.d b) (.inl ⟨.inl rfl, rfl⟩) (o.bo.ok o.hs)
  have hps := prod_small (b := b) hbl o.bo.l8 o.bo.x8
  have ec := comp_f (it := ⟨(prodL b).map nD, none⟩) (g := gN 7) (tt := t__law_case_right_1) (me := e__law_case_right_2) (vs := [7]) (ρ := [some ⟨.lst l, 1⟩, some ⟨h.d, 0⟩, some ⟨Box.d b, 0⟩, iC p, iC k, some ⟨nD c, 0⟩, none, none, none, none, none, none, none]) nD (fun r => decide (caseR (h.watch p) r = c)) nD (ds := prodL b) (fun r hr => by
    have hrl := (row_in hr).1
    have e := law_case_ok (h := h) (p := p) (row := r) hpp (fun x hx => by have := w2 x hx; omega) (by omega)
    by_cases hc : caseR (h.watch p) r = c <;> simp -implicitDefEqProofs [comp1, t__law_case_right_1, e__law_case_right_2, e, f_eqN, hc])
  have eks : fIx [⟨(h.persons.getD p default).d, 0⟩, ⟨.int 1, 0⟩] = .ok ⟨.tup ((h.kinds p).map Kind.d), 0⟩ := Prsn.at1
  have ekd : fIx [⟨.tup ((h.kinds p).map Kind.d), 0⟩, ⟨.int (k : Int), 0⟩] = .ok ⟨((h.kinds p).getD k default).d, 0⟩ := ixT (map_some hkk)
  have ekw : fIx [⟨((h.kinds p).getD k default).d, 0⟩, ⟨.int 1, 0⟩] = .ok ⟨.tup ((h.worths p k).map iD), 0⟩ := Kind.at1
  have ewl : fLen [⟨.tup ((h.worths p k).map iD), 0⟩] = .ok ⟨.int ((h.worths p k).length : Int), 0⟩ := by simp
  have ebp := box_at (b := b) (i := p) (k := 0) (k' := 0) hpb
  have ei : itemsOf (nD (b.getD p [])) = some (nL (b.getD p [])) := rfl
  generalize hrows : (prodL b).filter (fun r => decide (caseR (h.watch p) r = c)) = rows at ec
  have hrl : rows.length ≤ 5000 := by
    rw [← hrows]
    have := List.length_filter_le (fun r : Row => decide (caseR (h.watch p) r = c)) (prodL b)
    omega
  obtain ⟨⟨a9, a10, a11, a12⟩, e5, _⟩ := for_rel (it := ⟨nL (b.getD p []), none⟩) (g := gN 9) (body := b__law_case_right_5) (L := [0]) (ds := b.getD p []) (s := (none, none, none, none)) (fun (i : Nat) => D.int (i : Int))
    (fun s : Option Cell × Option Cell × Option Cell × Option Cell => [some ⟨.lst l1, 1⟩, some ⟨h.d, 0⟩, some ⟨Box.d b, 0⟩, iC p, iC k, some ⟨nD c, 0⟩, some ⟨.lst (rows.map nD), 1⟩, none, iC jw, s.1, s.2.1, s.2.2.1, s.2.2.2]) (fun rest _ => ∀ x ∈ rest, x ∈ b.getD p []) (fun x hx => hx) (fun x rest s hrest => by
      have hx := hrest x (List.mem_cons_self ..)
      have hrest2 : ∀ y ∈ rest, y ∈ b.getD p [] := fun y hy => hrest y (List.mem_cons_of_mem _ hy)
      have hsr : rows.filter (fun r => decide (r.getD p 0 = x)) = sayRows b (h.watch p) c p x := by rw [← hrows]; rfl
      have hne := say_ne o hx
      have hmem : ∀ r ∈ sayRows b (h.watch p) c p x, r ∈ prodL b := fun r hr => say_mem hr
      have hlen := say_len o (w := h.watch p) (x := x)
      have ecs := comp_f (it := ⟨rows.map nD, some 6⟩) (g := gN 7) (tt := t__law_case_right_3) (me := e__law_case_right_4) (vs := [7]) (ρ := [some ⟨.lst l1, 1⟩, some ⟨h.d, 0⟩, some ⟨Box.d b, 0⟩, iC p, iC k, some ⟨nD c, 0⟩, some ⟨.lst (rows.map nD), 1⟩, none, iC jw, iC x, s.2.1, s.2.2.1, s.2.2.2]) nD (fun r => decide (r.getD p 0 = x)) nD (ds := rows) (fun r hr => by
        have hr2 : r ∈ prodL b := by rw [← hrows] at hr; exact (List.mem_filter.mp hr).1
        have hrl := (row_in hr2).1
        have ex : fIx [⟨nD r, 0⟩, ⟨.int (p : Int), 0⟩] = .ok ⟨.int (r.getD p 0 : Nat), 0⟩ := ixT (map_some (by omega))
        by_cases hc : r.getD p 0 = x
        · have hc' : (((r.getD p 0 : Nat) : Int) = (x : Int)) = True := eq_true (by omega)
          simp -implicitDefEqProofs [-List.getD_eq_getElem?_getD, comp1, t__law_case_right_3, e__law_case_right_4, ex, hc, hc']
        · have hc' : (((r.getD p 0 : Nat) : Int) = (x : Int)) = False := eq_false (by omega)
          simp -implicitDefEqProofs [-List.getD_eq_getElem?_getD, comp1, t__law_case_right_3, e__law_case_right_4, ex, hc, hc'])
      rw [hsr] at ecs
      have hf := fun (s : Int) hs => law_first_of_ok q (rows := sayRows b (h.watch p) c p x) (fun r hr => rowOk_of o.hs o.bin (hmem r hr)) hlen (s := s) hs
      by_cases hxk : x = k
      · subst hxk
        have ew := worst_truth_ok o q hx
        have hf1 := hf 1 (by omega)
        obtain ⟨r1, r2⟩ := due_repr o q (s := 1) hne hmem
        have hdd : oD (((sayRows b (h.watch p) c p x).map (rowV h sizes p x jw)).foldl (oStep 1) none) = dueD h sizes p x jw 1 (sayRows b (h.watch p) c p x) := rfl
        rw [hdd] at hf1
        have hn := f_neR (k := 0) (k' := 0) r2
        generalize dueD h sizes p x jw 1 (sayRows b (h.watch p) c p x) = dd at *
        generalize (sayRows b (h.watch p) c p x).map nD = sr at *
        refine ⟨(iC x, some ⟨.lst sr, 1⟩, some ⟨dd, 0⟩, some ⟨dd, 0⟩), ?_, hrest2⟩
        simp (maxSteps := 1000000) -implicitDefEqProofs [-List.getD_eq_getElem?_getD, step1, b__law_case_right_5, show rows.length ≤ 16777216 by omega, ecs, ew, hf1, r1, hn]
      · have ew := best_lie_ok o q hx
        have hf1 := hf (-1) (by omega)
        obtain ⟨r1, r2⟩ := due_repr o q (s := -1) hne hmem
        have hdd : oD (((sayRows b (h.watch p) c p x).map (rowV h sizes p k jw)).foldl (oStep (-1)) none) = dueD h sizes p k jw (-1) (sayRows b (h.watch p) c p x) := rfl
        rw [hdd] at hf1
        have hn := f_neR (k := 0) (k' := 0) r2
        have hxk' : ((x : Int) = (k : Int)) = False := eq_false (by omega)
        generalize dueD h sizes p k jw (-1) (sayRows b (h.watch p) c p x) = dd at *
        generalize (sayRows b (h.watch p) c p x).map nD = sr at *
        refine ⟨(iC x, some ⟨.lst sr, 1⟩, some ⟨dd, 0⟩, some ⟨dd, 0⟩), ?_, hrest2⟩
        simp (maxSteps := 1000000) -implicitDefEqProofs [-List.getD_eq_getElem?_getD, step1, b__law_case_right_5, show rows.length ≤ 16777216 by omega, ecs, ew, hf1, r1, hn, hxk'])
  refine ⟨l1, ?_, g1⟩
  have e0 : (b.getD p []).map (fun (i : Nat) => D.int (i : Int)) = nL (b.getD p []) := rfl
  rw [e0] at e5
  simp (maxSteps := 1000000) -implicitDefEqProofs [-List.getD_eq_getElem?_getD, c__law_case_right, m__law_case_right, er, show (prodL b).length ≤ 16777216 by omega, ec, House.at2, House.atP hpp, eks, ekd, ekw, ewl, e1, ebp, ei, e5]
end
end S

namespace S
open Z PySem PySem.Spec PyProof.Rows L2
theorem law_pop_nat {l : List D} {q : List Nat} (h : DSl l) (h0 : 0 < q.length) (h1 : q.length < 1073741824) : ∃ (x : Nat) (q' : List Nat) (l' : List D), c__law_pop [⟨.lst l, 1⟩, ⟨.lst (nL q), 1⟩] = .ok (⟨.int (x : Int), 0⟩, [⟨.lst l', 1⟩, ⟨.lst (nL q'), 1⟩]) ∧ DSl l' ∧ q'.length + 1 = q.length ∧ x ∈ q ∧ ∀ y ∈ q', y ∈ q := by
  obtain ⟨n, l', e, hl', hn⟩ := drawN_e (m := q.length) h h0 h1
  have hp := pop1_nat (l := nL q) (n := n) (by rw [nL_len]; exact hn) (by rw [nL_len]; exact h1)
  refine ⟨q[n], q.eraseIdx n, l', ?_, hl', by rw [List.length_eraseIdx]; simp [hn]; omega, List.getElem_mem hn, fun y hy => (List.eraseIdx_sublist q n).subset hy⟩
  have e2 : nL (q.eraseIdx n) = (nL q).eraseIdx n := map_eraseIdx' (fun (i : Nat) => D.int (i : Int)) q n
  have e3 : (nL q)[n]'(by rw [nL_len]; exact hn) = .int ((q[n] : Nat) : Int) := by simp [nL]
  rw [e2]
  rw [e3] at hp
  simp -implicitDefEqProofs [c__law_pop, m__law_pop, e, hp]
section
variable {h : House} {b : Box} {sizes : List Nat} {p most : Nat} {l : List D} {c0 c1 c2 c3 c4 c5 c6 c7 c8 c9 c10 c11 : Option Cell}
theorem br_kinds {q : List Nat} (hd : DSl l) (hm : most ≤ q.length) (hq : q.length ≤ 1000) :
    ∃ (l' : List D) (q' out : List Nat), loopC ⟨rgI most, none⟩ (gN 8) mYes e__law_box_right_2 [8] (rgI most) [some ⟨.lst l, 1⟩, c1, c2, c3, c4, c5, c6, some ⟨.lst (nL q), 1⟩, none, c9, c10, c11] =
      .ok (nL out, [some ⟨.lst l', 1⟩, c1, c2, c3, c4, c5, c6, some ⟨.lst (nL q'), 1⟩, none, c9, c10, c11]) ∧ DSl l' ∧ ∀ x ∈ out, x ∈ q := by
  obtain ⟨⟨l', q'⟩, out, e, h1, zs, hz, h2, h3, h4⟩ := comp_rel (it := ⟨rgI most, none⟩) (g := gN 8) (tt := mYes) (me := e__law_box_right_2) (vs := [8]) (ds := List.range most) (s := (l, q)) (acc := []) (fun (i : Nat) => D.int (i : Int))
    (fun s : List D × List Nat => [some ⟨.lst s.1, 1⟩, c1, c2, c3, c4, c5, c6, some ⟨.lst (nL s.2), 1⟩, none, c9, c10, c11]) (fun r s acc => DSl s.1 ∧ ∃ zs : List Nat, acc = nL zs ∧ (∀ x ∈ zs, x ∈ q) ∧ (∀ x ∈ s.2, x ∈ q) ∧ r.length ≤ s.2.length ∧ s.2.length ≤ 1000) ⟨hd, [], rfl, by simp, fun x hx => hx, by simpa using hm, hq⟩ (fun a r s acc ⟨h1, zs, hacc, h2, h3, h4, h5⟩ => by
      rw [List.length_cons] at h4
      obtain ⟨x, q2, l2, e, g1, g2, g3, g4⟩ := law_pop_nat (q := s.2) h1 (by omega) (by omega)
      refine ⟨(l2, q2), some (.int (x : Int)), ?_, g1, zs ++ [x], by simp [hacc, nL], fun y hy => ?_, fun y hy => h3 y (g4 y hy), by simp only; omega, by simp only; omega⟩
      · simp -implicitDefEqProofs [comp1, e__law_box_right_2, e]
      · rw [List.mem_append, List.mem_singleton] at hy
        rcases hy with hy | rfl
        · exact h2 y hy
        · exact h3 _ g3)
  rw [List.nil_append] at hz
  subst hz
  exact ⟨l', q', zs, e, h1, h2⟩
theorem br_asked {cases : List Row} {k5 : Nat} (hk5 : k5 ≤ 1) (hd : DSl l) (h0 : 0 < cases.length) (h1 : cases.length ≤ 100000) (hm : most ≤ 10000) :
    ∃ (l' : List D) (out : List Row), loopC ⟨rgI most, none⟩ (gN 8) mYes e__law_box_right_3 [8] (rgI most) [some ⟨.lst l, 1⟩, c1, c2, c3, c4, some ⟨.lst (cases.map nD), k5⟩, c6, c7, none, c9, c10, c11] =
      .ok (out.map nD, [some ⟨.lst l', 1⟩, c1, c2, c3, c4, some ⟨.lst (cases.map nD), k5⟩, c6, c7, none, c9, c10, c11]) ∧ DSl l' ∧ ∀ x ∈ out, x ∈ cases := by
  obtain ⟨l', out, e, g1, hp⟩ := comp_draw (it := ⟨rgI most, none⟩) (g := gN 8) (tt := mYes) (me := e__law_box_right_3) (vs := [8]) (ds := List.range most) (s := l) (fun (i : Nat) => D.int (i : Int))
    (fun l => [some ⟨.lst l, 1⟩, c1, c2, c3, c4, some ⟨.lst (cases.map nD), k5⟩, c6, c7, none, c9, c10, c11]) nD DSl (fun _ c => c ∈ cases) hd (fun a _ l hl => by
      have hpk := pickL_s (l := l) (row := cases.map nD) (k := k5) hk5 hl (by simpa using h0) (by rw [List.length_map]; omega)
      rw [List.length_map] at hpk
      have hn := dN_ltN (l := l) (m := cases.length) hl h0 (by omega)
      have hg : (cases.map nD).getD (dN l (cases.length : Nat)) .non = nD (cases.getD (dN l (cases.length : Nat)) []) := by simp [List.getElem?_eq_getElem hn]
      rw [hg] at hpk
      refine ⟨dL l (cases.length : Nat), cases.getD (dN l (cases.length : Nat)) [], ?_, hl.d, by simp [List.getElem?_eq_getElem hn]⟩
      rcases (show k5 = 0 ∨ k5 = 1 by omega) with rfl | rfl <;> simp -implicitDefEqProofs [-List.getD_eq_getElem?_getD, comp1, e__law_box_right_3, hpk])
  exact ⟨l', out, e, g1, pr_all hp fun _ _ z => z⟩
theorem br_cases {k k10 : Nat} {asked : List Row} (o : ∀ c ∈ asked, CaseOk h b sizes p c) (hk : k ∈ b.getD p []) (hd : DSl l) {it : ItD} (hit : it = ⟨asked.map nD, none⟩ ∧ k10 = 0 ∨ it = ⟨asked.map nD, some 10⟩ ∧ k10 = 1) {L : List Nat} (hL : 11 ∉ L) :
    ∃ (l' : List D) (c11' : Option Cell), loopF it (gN 11) b__law_box_right_4 L (asked.map nD) [some ⟨.lst l, 1⟩, some ⟨h.d, 0⟩, some ⟨Box.d b, 0⟩, c3, iC p, c5, c6, c7, c8, iC k, some ⟨.lst (asked.map nD), k10⟩, c11] =
      .ok (.next, [some ⟨.lst l', 1⟩, some ⟨h.d, 0⟩, some ⟨Box.d b, 0⟩, c3, iC p, c5, c6, c7, c8, iC k, some ⟨.lst (asked.map nD), k10⟩, c11']) ∧ DSl l' := by
  obtain ⟨⟨l', a11⟩, e, g, _⟩ := for_rel (it := it) (g := gN 11) (body := b__law_box_right_4) (L := L) (ds := asked) (s := (l, c11)) nD
    (fun s : List D × Option Cell => [some ⟨.lst s.1, 1⟩, some ⟨h.d, 0⟩, some ⟨Box.d b, 0⟩, c3, iC p, c5, c6, c7, c8, iC k, some ⟨.lst (asked.map nD), k10⟩, s.2]) (fun r s => DSl s.1 ∧ ∀ c ∈ r, CaseOk h b sizes p c) ⟨hd, o⟩ (fun c r s ⟨h1, h2⟩ => by
      obtain ⟨l2, e2, g2⟩ := law_case_right_ok (h2 c (List.mem_cons_self ..)) hk h1
      refine ⟨(l2, some ⟨nD c, 0⟩), ?_, g2, fun x hx => h2 x (List.mem_cons_of_mem _ hx)⟩
      rcases hit with ⟨rfl, rfl⟩ | ⟨rfl, rfl⟩ <;> simp (maxSteps := 1000000) -implicitDefEqProofs [step1, b__law_box_right_4, e2, hL])
  exact ⟨l', a11, e, g⟩
theorem br_each {cases : List Row} {ks : List Nat} {k5 : Nat} (o : ∀ c ∈ cases, CaseOk h b sizes p c) (h0 : 0 < cases.length) (h1 : cases.length ≤ 100000) (hk : ∀ k ∈ ks, k ∈ b.getD p []) (hd : DSl l) (hm : most ≤ 10000) :
    ∃ (l' : List D) (k5' : Nat) (c9' c10' c11' : Option Cell), loopF ⟨nL ks, some 7⟩ (gN 9) b__law_box_right_5 [7, 0] (nL ks) [some ⟨.lst l, 1⟩, some ⟨h.d, 0⟩, some ⟨Box.d b, 0⟩, iC most, iC p, some ⟨.lst (cases.map nD), k5⟩, c6, some ⟨.lst (nL ks), 1⟩, none, c9, c10, c11] =
      .ok (.next, [some ⟨.lst l', 1⟩, some ⟨h.d, 0⟩, some ⟨Box.d b, 0⟩, iC most, iC p, some ⟨.lst (cases.map nD), k5'⟩, c6, some ⟨.lst (nL ks), 1⟩, none, c9', c10', c11']) ∧ DSl l' := by
  obtain ⟨⟨l', k5', a9, a10, a11⟩, e, g, _⟩ := for_rel (it := ⟨nL ks, some 7⟩) (g := gN 9) (body := b__law_box_right_5) (L := [7, 0]) (ds := ks) (s := (l, k5, c9, c10, c11)) (fun (i : Nat) => D.int (i : Int))
    (fun s : List D × Nat × Option Cell × Option Cell × Option Cell => [some ⟨.lst s.1, 1⟩, some ⟨h.d, 0⟩, some ⟨Box.d b, 0⟩, iC most, iC p, some ⟨.lst (cases.map nD), s.2.1⟩, c6, some ⟨.lst (nL ks), 1⟩, none, s.2.2.1, s.2.2.2.1, s.2.2.2.2]) (fun r s => DSl s.1 ∧ ∀ k ∈ r, k ∈ b.getD p []) ⟨hd, hk⟩ (fun k r s ⟨g1, g2⟩ => by
      have hkm := g2 k (List.mem_cons_self ..)
      have hr : ∀ x ∈ r, x ∈ b.getD p [] := fun x hx => g2 x (List.mem_cons_of_mem _ hx)
      by_cases hlt : most < cases.length
      · obtain ⟨l2, out, e2, g3, hout⟩ := br_asked (most := most) (cases := cases) (k5 := 0) (by omega) (l := s.1) (c1 := some ⟨h.d, 0⟩) (c2 := some ⟨Box.d b, 0⟩) (c3 := iC most) (c4 := iC p) (c6 := c6) (c7 := some ⟨.lst (nL ks), 1⟩) (c9 := iC k) (c10 := some ⟨.lst (cases.map nD), 0⟩) (c11 := s.2.2.2.2) g1 h0 h1 hm
        obtain ⟨l3, a11, e3, g4⟩ := br_cases (h := h) (b := b) (sizes := sizes) (p := p) (k := k) (k10 := 1) (asked := out) (c3 := iC most) (c5 := some ⟨.lst (cases.map nD), 0⟩) (c6 := c6) (c7 := some ⟨.lst (nL ks), 1⟩) (c8 := none) (c11 := s.2.2.2.2) (fun c hc => o c (hout c hc)) hkm g3 (it := ⟨out.map nD, some 10⟩) (.inr ⟨rfl, rfl⟩) (L := [10, 7, 0]) (by simp)
        refine ⟨(l3, 0, iC k, some ⟨.lst (out.map nD), 1⟩, a11), ?_, g4, hr⟩
        have hlt' : ((most : Int) < (cases.length : Int)) = True := eq_true (by omega)
        simp (maxSteps := 1000000) -implicitDefEqProofs [step1, b__law_box_right_5, hlt', rgB_nat (show most ≤ 16777216 by omega), rgD_nat', show most ≤ 16777216 by omega, e2, e3]
      · obtain ⟨l3, a11, e3, g4⟩ := br_cases (h := h) (b := b) (sizes := sizes) (p := p) (k := k) (k10 := 0) (asked := cases) (c3 := iC most) (c5 := some ⟨.lst (cases.map nD), 0⟩) (c6 := c6) (c7 := some ⟨.lst (nL ks), 1⟩) (c8 := none) (c11 := s.2.2.2.2) o hkm g1 (it := ⟨cases.map nD, none⟩) (.inl ⟨rfl, rfl⟩) (L := [7, 0]) (by simp)
        refine ⟨(l3, 0, iC k, some ⟨.lst (cases.map nD), 0⟩, a11), ?_, g4, hr⟩
        have hlt' : ((most : Int) < (cases.length : Int)) = False := eq_false (by omega)
        simp (maxSteps := 1000000) -implicitDefEqProofs [step1, b__law_box_right_5, hlt', e3])
  exact ⟨l', k5', a9, a10, a11, e, g⟩
end
end S

namespace S
open Z PySem PySem.Spec PyProof.Rows L2
section
variable {l : List D} {sizes : List Nat} {out np : Nat} {sc sp : Int} {c0 c1 c2 c3 c4 c5 c6 c7 c8 c9 c10 c11 c12 c13 c14 c15 c16 c17 c18 c19 c20 c21 : Option Cell}
def SpOk (sp : Int) : Prop := sp = 2 ∨ sp = 2000001 ∨ sp = 5
theorem wnum (h : DSl l) (h1 : 1 ≤ sc) (h2 : sc ≤ 1000000) (hp : SpOk sp) : ∃ (n : Nat) (l' : List D) (i : Int), c_draw [⟨.lst l, 1⟩, ⟨.int sp, 0⟩] = .ok (⟨.int (n : Int), 0⟩, [⟨.lst l', 1⟩, ⟨.int sp, 0⟩]) ∧ DSl l' ∧ Bd i ∧ fMul [⟨.int ((n : Int) - sp / 2), 0⟩, ⟨.int sc, 0⟩] = .ok ⟨.int i, 0⟩ := by
  have hsp : 2 ≤ sp ∧ sp ≤ 2000001 := by rcases hp with rfl | rfl | rfl <;> decide
  obtain ⟨n, l', e, g, hn⟩ := draw_e (m := sp) h (by omega) (by omega)
  refine ⟨n, l', ((n : Int) - sp / 2) * sc, e, g, ?_, p_mulR ⟨by omega, by omega⟩⟩
  unfold Bd
  have a1 : -1000000 ≤ (n : Int) - sp / 2 := by omega
  have a2 : (n : Int) - sp / 2 ≤ 1000000 := by omega
  constructor
  · have := Int.mul_le_mul_of_nonneg_right a1 (show (0 : Int) ≤ sc by omega)
    omega
  · have := Int.mul_le_mul_of_nonneg_right a2 (show (0 : Int) ≤ sc by omega)
    omega
theorem wdiv (hp : SpOk sp) : fDiv [⟨.int sp, 0⟩, ⟨.int 2, 0⟩] = .ok ⟨.int (sp / 2), 0⟩ := p_div (i := sp) ⟨by decide, by decide⟩
theorem wrow (h : DSl l) (h1 : 1 ≤ sc) (h2 : sc ≤ 1000000) (hsp : SpOk sp) {n : Nat} :
    ∃ (l' : List D) (ns : List Int), loopC ⟨rgI n, none⟩ (gN 14) mYes e__law_wide_house_k27_2 [14] (rgI n) [some ⟨.lst l, 1⟩, c1, c2, c3, zC sc, zC sp, c6, c7, c8, c9, c10, c11, c12, c13, none, c15, c16, c17, c18, c19, c20, c21] =
      .ok (ns.map D.int, [some ⟨.lst l', 1⟩, c1, c2, c3, zC sc, zC sp, c6, c7, c8, c9, c10, c11, c12, c13, none, c15, c16, c17, c18, c19, c20, c21]) ∧ DSl l' ∧ ns.length = n ∧ ∀ i ∈ ns, Bd i := by
  have hdv := wdiv hsp
  obtain ⟨l', ns, e, g1, hp⟩ := comp_draw (it := ⟨rgI n, none⟩) (g := gN 14) (tt := mYes) (me := e__law_wide_house_k27_2) (vs := [14]) (ds := List.range n) (s := l) (fun (i : Nat) => D.int (i : Int))
    (fun l => [some ⟨.lst l, 1⟩, c1, c2, c3, zC sc, zC sp, c6, c7, c8, c9, c10, c11, c12, c13, none, c15, c16, c17, c18, c19, c20, c21]) D.int DSl (fun _ i => Bd i) h (fun a _ l hl => by
      obtain ⟨n, l', i, e, g, gi, em⟩ := wnum hl h1 h2 hsp
      exact ⟨l', i, by simp -implicitDefEqProofs [comp1, e__law_wide_house_k27_2, e, hdv, em], g, gi⟩)
  exact ⟨l', ns, e, g1, by rw [← pr_len hp, List.length_range], pr_all hp fun _ _ z => z⟩
theorem wworths (h : DSl l) (h1 : 1 ≤ sc) (h2 : sc ≤ 1000000) (hsp : SpOk sp) {n : Nat} (ho : out ≤ 10000) (hn : n ≤ 10000) :
    ∃ (l' : List D) (c13' : Option Cell) (ws : List (List Int)), loopF ⟨rgI n, none⟩ (gN 13) b__law_wide_house_k27_3 [0] (rgI n) [some ⟨.lst l, 1⟩, c1, c2, iC out, zC sc, zC sp, c6, c7, c8, c9, c10, c11, some ⟨.lst [], 1⟩, c13, none, c15, c16, c17, c18, c19, c20, c21] =
      .ok (.next, [some ⟨.lst l', 1⟩, c1, c2, iC out, zC sc, zC sp, c6, c7, c8, c9, c10, c11, some ⟨.lst (ws.map iD), 1⟩, c13', none, c15, c16, c17, c18, c19, c20, c21]) ∧ DSl l' ∧ ws.length = n ∧ ∀ ns ∈ ws, ns.length = out ∧ ∀ i ∈ ns, Bd i := by
  obtain ⟨⟨l', c'⟩, ws, e, g1, hp⟩ := for_app (it := ⟨rgI n, none⟩) (g := gN 13) (body := b__law_wide_house_k27_3) (L := [0]) (ds := List.range n) (s := (l, c13)) (acc := []) (fun (i : Nat) => D.int (i : Int))
    (fun (s : List D × Option Cell) (acc : List (List Int)) => [some ⟨.lst s.1, 1⟩, c1, c2, iC out, zC sc, zC sp, c6, c7, c8, c9, c10, c11, some ⟨.lst (acc.map iD), 1⟩, s.2, none, c15, c16, c17, c18, c19, c20, c21]) (fun s => DSl s.1) (fun _ ns => ns.length = out ∧ ∀ i ∈ ns, Bd i) h (by simpa using hn) (fun a _ s acc hs hl => by
      obtain ⟨l2, ns, e, g1, g2, g3⟩ := wrow (c1 := c1) (c2 := c2) (c3 := iC out) (c6 := c6) (c7 := c7) (c8 := c8) (c9 := c9) (c10 := c10) (c11 := c11) (c12 := some ⟨.lst (acc.map iD), 1⟩) (c13 := iC a) (c15 := c15) (c16 := c16) (c17 := c17) (c18 := c18) (c19 := c19) (c20 := c20) (c21 := c21) hs h1 h2 hsp (n := out)
      refine ⟨(l2, iC a), ns, ?_, g1, g2, g3⟩
      have ei : D.tup (ns.map D.int) = iD ns := rfl
      simp (maxSteps := 1000000) -implicitDefEqProofs [step1, b__law_wide_house_k27_3, rgB_nat (show out ≤ 16777216 by omega), rgD_nat', show out ≤ 16777216 by omega, e, f_app (show (acc.map iD).length ≤ 10000 by simpa using hl), ei])
  simp only [List.nil_append] at e
  exact ⟨l', c', ws, e, g1, by rw [← pr_len hp, List.length_range], pr_all hp fun _ _ z => z⟩
theorem wkinds (h : DSl l) (h1 : 1 ≤ sc) (h2 : sc ≤ 1000000) (hsp : SpOk sp) {n : Nat} (ho : out ≤ 10000) {ws : List Str} (hws : n ≤ ws.length) (hw1 : ws.length ≤ 1000) :
    ∃ (l' : List D) (c7' c12' c13' : Option Cell) (ws' : List Str) (ks : List Kind), loopF ⟨rgI n, none⟩ (gN 7) b__law_wide_house_k27_4 [0] (rgI n) [some ⟨.lst l, 1⟩, c1, c2, iC out, zC sc, zC sp, c6, c7, c8, c9, some ⟨.lst (ws.map D.str), 1⟩, some ⟨.lst [], 1⟩, c12, c13, none, c15, c16, c17, c18, c19, c20, c21] =
      .ok (.next, [some ⟨.lst l', 1⟩, c1, c2, iC out, zC sc, zC sp, c6, c7', c8, c9, some ⟨.lst (ws'.map D.str), 1⟩, some ⟨.lst (ks.map Kind.d), 1⟩, c12', c13', none, c15, c16, c17, c18, c19, c20, c21]) ∧ DSl l' ∧ ks.length = n ∧ ∀ k ∈ ks, KindOk out k := by
  obtain ⟨⟨l', a7, a12, a13, ws'⟩, ks, e, ⟨g1, _, _⟩, hp⟩ := for_app2 (it := ⟨rgI n, none⟩) (g := gN 7) (body := b__law_wide_house_k27_4) (L := [0]) (ds := List.range n) (s := (l, c7, c12, c13, ws)) (acc := []) (fun (i : Nat) => D.int (i : Int))
    (fun (s : List D × Option Cell × Option Cell × Option Cell × List Str) (acc : List Kind) => [some ⟨.lst s.1, 1⟩, c1, c2, iC out, zC sc, zC sp, c6, s.2.1, c8, c9, some ⟨.lst (s.2.2.2.2.map D.str), 1⟩, some ⟨.lst (acc.map Kind.d), 1⟩, s.2.2.1, s.2.2.2.1, none, c15, c16, c17, c18, c19, c20, c21])
    (fun r s => DSl s.1 ∧ r.length ≤ s.2.2.2.2.length ∧ s.2.2.2.2.length ≤ 1000) (fun _ k => KindOk out k) ⟨h, by simpa using hws, hw1⟩ (by simp; omega) (fun a r s acc ⟨hs, hs2, hs3⟩ hl => by
      rw [List.length_cons] at hs2
      obtain ⟨n, l1, e1, g1, hn⟩ := draw_e (m := 3) hs (by omega) (by omega)
      have hr1 := rg_one n (by omega)
      obtain ⟨l2, a13, rs, e2, g2, g3, g4⟩ := wworths (c1 := c1) (c2 := c2) (c6 := c6) (c7 := iC a) (c8 := c8) (c9 := c9) (c10 := some ⟨.lst (s.2.2.2.2.map D.str), 1⟩) (c11 := some ⟨.lst (acc.map Kind.d), 1⟩) (c13 := s.2.2.2.1) (c15 := c15) (c16 := c16) (c17 := c17) (c18 := c18) (c19 := c19) (c20 := c20) (c21 := c21) g1 h1 h2 hsp (n := 1 + n) ho (by omega)
      obtain ⟨x, ws2, l3, e3, g5, g6⟩ := law_pop_many (ns := s.2.2.2.2) g2 (by omega) hs3
      refine ⟨(l3, iC a, some ⟨.lst (rs.map iD), 1⟩, a13, ws2), ⟨x, rs⟩, ?_, ⟨g5, by simp only; omega, by simp only; omega⟩, ⟨by simp only; omega, by simp only; omega, g4⟩⟩
      simp (maxSteps := 1000000) -implicitDefEqProofs [step1, b__law_wide_house_k27_4, e1, hr1.1, hr1.2, e2, e3, f_app (show (acc.map Kind.d).length ≤ 10000 by simpa using hl), Kind.d])
  simp only [List.nil_append] at e
  exact ⟨l', a7, a12, a13, ws', ks, e, g1, by rw [← pr_len hp, List.length_range], pr_all hp fun _ _ z => z⟩
theorem wwatch (h : DSl l) {p m : Nat} (hm : m ≤ 100) :
    ∃ (l' : List D) (w : List Nat), loopC ⟨rgI m, none⟩ (gN 16) t__law_wide_house_k27_5 e__law_wide_house_k27_6 [16] (rgI m) [some ⟨.lst l, 1⟩, c1, c2, c3, c4, c5, c6, c7, c8, iC p, c10, c11, c12, c13, c14, c15, none, c17, c18, c19, c20, c21] = .ok (nL w, [some ⟨.lst l', 1⟩, c1, c2, c3, c4, c5, c6, c7, c8, iC p, c10, c11, c12, c13, c14, c15, none, c17, c18, c19, c20, c21]) ∧ DSl l' ∧ w.Pairwise (· < ·) ∧ ∀ o ∈ w, o < m ∧ o ≠ p := by
  obtain ⟨l2, out, e2, hI1, w, hacc, hI2, hI3, hI4⟩ := comp_rel (it := ⟨rgI m, none⟩) (g := gN 16) (tt := t__law_wide_house_k27_5) (me := e__law_wide_house_k27_6) (vs := [16]) (ds := List.range m) (s := l) (acc := []) (fun (i : Nat) => D.int (i : Int))
    (fun l : List D => [some ⟨.lst l, 1⟩, c1, c2, c3, c4, c5, c6, c7, c8, iC p, c10, c11, c12, c13, c14, c15, none, c17, c18, c19, c20, c21])
    (fun r l acc => DSl l ∧ ∃ w : List Nat, acc = nL w ∧ (∃ k, r = (List.range m).drop k ∧ ∀ o ∈ w, o < k) ∧ w.Pairwise (· < ·) ∧ ∀ o ∈ w, o < m ∧ o ≠ p) ⟨h, [], rfl, ⟨0, rfl, by simp⟩, by simp, by simp⟩
    (fun a r l acc ⟨h1, w, hw, ⟨k, hk, hk2⟩, hp, hm2⟩ => by
      have hlt : k < (List.range m).length := by
        have := congrArg List.length hk
        simp at this ⊢
        omega
      rw [List.drop_eq_getElem_cons hlt] at hk
      injection hk with ha hr
      rw [List.getElem_range] at ha
      subst ha
      have ham : a < m := by simpa using hlt
      obtain ⟨n2, l2, e2, h2, hn2⟩ := draw_e (m := 3) h1 (by decide) (by decide)
      by_cases hap : a = p
      · refine ⟨l, none, ?_, h1, w, by simp [hw], ⟨a + 1, hr, fun o ho => by have := hk2 o ho; omega⟩, hp, hm2⟩
        have en := f_neP (x := .int (a : Int)) (y := .int (p : Int)) (k := 0) (k' := 0) (by simp [D.pl]) (by simp [D.pl])
        have hap' : (D.int (a : Int) = D.int (p : Int)) = True := eq_true (by rw [hap])
        simp -implicitDefEqProofs [comp1, t__law_wide_house_k27_5, en, hap']
      · have en := f_neP (x := .int (a : Int)) (y := .int (p : Int)) (k := 0) (k' := 0) (by simp [D.pl]) (by simp [D.pl])
        have hap' : ¬ (a : Int) = (p : Int) := by omega
        by_cases hn1 : 0 < n2
        · have hn1' : ((0 : Int) < (n2 : Int)) = True := eq_true (by omega)
          refine ⟨l2, some (.int (a : Int)), ?_, h2, w ++ [a], by rw [hw]; simp [nL], ⟨a + 1, hr, fun o ho => ?_⟩, ?_, fun o ho => ?_⟩
          · simp -implicitDefEqProofs [comp1, t__law_wide_house_k27_5, e__law_wide_house_k27_6, en, hap, hap', e2, hn1, hn1']
          · rw [List.mem_append, List.mem_singleton] at ho
            rcases ho with ho | rfl
            · have := hk2 o ho; omega
            · omega
          · rw [List.pairwise_append]
            exact ⟨hp, by simp, fun x hx y hy => by rw [List.mem_singleton] at hy; subst hy; exact hk2 x hx⟩
          · rw [List.mem_append, List.mem_singleton] at ho
            rcases ho with ho | rfl
            · exact hm2 o ho
            · exact ⟨ham, hap⟩
        · have hn1' : n2 = 0 := by omega
          subst hn1'
          refine ⟨l2, none, ?_, h2, w, by simp [hw], ⟨a + 1, hr, fun o ho => by have := hk2 o ho; omega⟩, hp, hm2⟩
          simp -implicitDefEqProofs [comp1, t__law_wide_house_k27_5, en, hap, hap', e2])
  rw [List.nil_append] at hacc
  subst hacc
  exact ⟨l2, w, e2, hI1, hI3, hI4⟩
end
end S

namespace S
open Z PySem PySem.Spec PyProof.Rows L2
structure BrS where
  l : List D
  c4 : Option Cell
  c5 : Option Cell
  c7 : Option Cell
  c9 : Option Cell
  c10 : Option Cell
  c11 : Option Cell
theorem law_box_right_ok {h : House} {b : Box} {sizes : List Nat} {most : Nat} {l : List D} (ho : HouseOk h sizes) (hs : SizesOk sizes) (hb : BoxOf b sizes) (hbin : BoxIn b (sizes.map List.range)) (hm1 : 1 ≤ most) (hm : most ≤ 10000) (hd : DSl l) :
    ∃ l', c__law_box_right [⟨.lst l, 1⟩, ⟨h.d, 0⟩, ⟨Box.d b, 0⟩, ⟨.int (most : Int), 0⟩] = .ok (⟨.bl true, 0⟩, [⟨.lst l', 1⟩, ⟨h.d, 0⟩, ⟨Box.d b, 0⟩, ⟨.int (most : Int), 0⟩]) ∧ DSl l' := by
  have h4 := hs.n4
  have hbl := hb.len
  obtain ⟨s', e, g, _⟩ := for_rel (it := ⟨rgI b.length, none⟩) (g := gN 4) (body := b__law_box_right_6) (L := [0]) (ds := List.range b.length) (s := (⟨l, none, none, none, none, none, none⟩ : BrS)) (fun (i : Nat) => D.int (i : Int))
    (fun s : BrS => [some ⟨.lst s.l, 1⟩, some ⟨h.d, 0⟩, some ⟨Box.d b, 0⟩, iC most, s.c4, s.c5, none, s.c7, none, s.c9, s.c10, s.c11]) (fun r s => DSl s.l ∧ ∀ p ∈ r, p < sizes.length) ⟨hd, by simp [hbl]⟩ (fun p r s ⟨g1, g2⟩ => by
      have hp := g2 p (List.mem_cons_self ..)
      have hr : ∀ x ∈ r, x < sizes.length := fun x hx => g2 x (List.mem_cons_of_mem _ hx)
      have hpp : p < h.persons.length := by rw [ho.np]; exact hp
      have hpb : p < b.length := by omega
      have hpr := ho.person hp
      have hwp : (h.watch p).Pairwise (· < ·) := hpr.asc
      have hwat : ∀ o ∈ h.watch p, o < sizes.length ∧ o ≠ p := hpr.wat
      have hwl := asc_length (a := 0) (n := sizes.length) hwp fun o hO => ⟨Nat.zero_le _, (hwat o hO).1⟩
      have hcq : ∀ q ∈ caseBox b (h.watch p), q ∈ b := fun q hq => by
        obtain ⟨o, hO, rfl⟩ := List.mem_map.mp hq
        exact getD_mem' (by have := (hwat o hO).1; omega)
      have hbne : ∀ q ∈ b, q ≠ [] := fun q hq => by
        obtain ⟨i, hi⟩ := List.mem_iff_getElem?.mp hq
        obtain ⟨hlt, _⟩ := List.getElem?_eq_some_iff.mp hi
        have hi2 : i < sizes.length := by omega
        exact (hbin.sub i q (List.range sizes[i]) hi (by simp [List.getElem?_eq_getElem hi2])).2
      have hcl : (caseBox b (h.watch p)).length = (h.watch p).length := by simp [caseBox]
      have er := law_rows_box (b := caseBox b (h.watch p)) (k := 1) (c := .lst ((caseBox b (h.watch p)).map nD)) (.inr ⟨rfl, rfl⟩) ⟨by omega, fun q hq => hb.l8 q (hcq q hq)⟩
      have hcs : ∀ c ∈ prodL (caseBox b (h.watch p)), CaseOk h b sizes p c := fun c hc => ⟨ho, hs, hb, hbin, hp, prodL_mem.mp hc⟩
      have hc0 : 0 < (prodL (caseBox b (h.watch p))).length := List.length_pos_iff.mpr (prod_ne fun q hq => hbne q (hcq q hq))
      have hc1 : (prodL (caseBox b (h.watch p))).length ≤ 5000 := (prod_small (b := caseBox b (h.watch p)) (by omega) (fun q hq => hb.l8 q (hcq q hq)) (fun q hq => hb.x8 q (hcq q hq))).1
      generalize hcases : prodL (caseBox b (h.watch p)) = cases at er hcs hc0 hc1
      have ec := comp_m (it := ⟨nL (h.watch p), none⟩) (g := gN 6) (tt := mYes) (me := e__law_box_right_1) (vs := [6]) (ρ := [some ⟨.lst s.l, 1⟩, some ⟨h.d, 0⟩, some ⟨Box.d b, 0⟩, iC most, iC p, s.c5, none, s.c7, none, s.c9, s.c10, s.c11]) (fun (i : Nat) => D.int (i : Int)) (fun o => nD (b.getD o [])) (ds := h.watch p) (fun o hO => by
        have := box_at (b := b) (i := o) (k := 0) (k' := 0) (by have := (hwat o hO).1; omega)
        simp -implicitDefEqProofs [-List.getD_eq_getElem?_getD, comp1, e__law_box_right_1, this])
      have ec0 : (h.watch p).map (fun (i : Nat) => D.int (i : Int)) = nL (h.watch p) := rfl
      have ec1 : (h.watch p).map (fun o => nD (b.getD o [])) = (caseBox b (h.watch p)).map nD := by simp [caseBox]
      rw [ec0, ec1] at ec
      have ew : fIx [⟨(h.persons.getD p default).d, 0⟩, ⟨.int 2, 0⟩] = .ok ⟨nD (h.watch p), 0⟩ := Prsn.at2
      have ei : itemsOf (nD (h.watch p)) = some (nL (h.watch p)) := rfl
      have ebp := box_at (b := b) (i := p) (k := 0) (k' := 0) hpb
      have elist : fList [⟨nD (b.getD p []), 0⟩] = .ok ⟨.lst (nL (b.getD p [])), 1⟩ := rfl
      have hql := hb.l8 _ (getD_mem' hpb)
      have hwl2 : (h.watch p).length ≤ 16777216 := by omega
      by_cases hlt : most < (b.getD p []).length
      · obtain ⟨l2, q', ks, e2, g3, hks⟩ := br_kinds (most := most) (q := b.getD p []) (l := s.l) (c1 := some ⟨h.d, 0⟩) (c2 := some ⟨Box.d b, 0⟩) (c3 := iC most) (c4 := iC p) (c5 := some ⟨.lst (cases.map nD), 1⟩) (c6 := none) (c9 := s.c9) (c10 := s.c10) (c11 := s.c11) g1 (by omega) (by omega)
        obtain ⟨l3, k5', a9, a10, a11, e3, g4⟩ := br_each (sizes := sizes) (ks := ks) (k5 := 1) (c6 := none) (c9 := s.c9) (c10 := s.c10) (c11 := s.c11) hcs hc0 (by omega) hks g3 hm
        refine ⟨⟨l3, iC p, some ⟨.lst (cases.map nD), k5'⟩, some ⟨.lst (nL ks), 1⟩, a9, a10, a11⟩, ?_, g4, hr⟩
        have hlt' : ((most : Int) < ((b.getD p []).length : Int)) = True := eq_true (by omega)
        generalize b.getD p [] = q at *
        generalize h.watch p = w at *
        simp (maxSteps := 1000000) -implicitDefEqProofs [-List.getD_eq_getElem?_getD, step1, b__law_box_right_6, House.at2, House.atP hpp, ew, ei, hwl2, ec, er, ebp, elist, hlt', rgB_nat (show most ≤ 16777216 by omega), rgD_nat', show most ≤ 16777216 by omega, e2, e3]
      · obtain ⟨l3, k5', a9, a10, a11, e3, g4⟩ := br_each (sizes := sizes) (ks := b.getD p []) (k5 := 1) (c6 := none) (c9 := s.c9) (c10 := s.c10) (c11 := s.c11) hcs hc0 (by omega) (fun k hk => hk) g1 hm
        refine ⟨⟨l3, iC p, some ⟨.lst (cases.map nD), k5'⟩, some ⟨.lst (nL (b.getD p [])), 1⟩, a9, a10, a11⟩, ?_, g4, hr⟩
        have hlt' : ((most : Int) < ((b.getD p []).length : Int)) = False := eq_false (by omega)
        generalize b.getD p [] = q at *
        generalize h.watch p = w at *
        simp (maxSteps := 1000000) -implicitDefEqProofs [-List.getD_eq_getElem?_getD, step1, b__law_box_right_6, House.at2, House.atP hpp, ew, ei, hwl2, ec, er, ebp, elist, hlt', e3])
  refine ⟨s'.l, ?_, g⟩
  simp (maxSteps := 1000000) -implicitDefEqProofs [c__law_box_right, m__law_box_right, box_len, rgB_nat (show b.length ≤ 16777216 by omega), rgD_nat', e]
end S

namespace S
open Z PySem PySem.Spec PyProof.Rows L2
section
variable {l : List D} {sizes : List Nat} {out np : Nat} {sc sp : Int} {c0 c1 c2 c3 c4 c5 c6 c7 c8 c9 c10 c11 c12 c13 c14 c15 c16 c17 c18 c19 c20 c21 : Option Cell}
theorem wpersons (h : DSl l) (h1 : 1 ≤ sc) (h2 : sc ≤ 1000000) (hsp : SpOk sp) (hs : SizesOk sizes) (ho : out ≤ 10000) {ns : List Str} (hns : sizes.length ≤ ns.length) (hn1 : ns.length ≤ 1000) :
    ∃ (l' : List D) (c7' c9' c10' c11' c12' c13' c15' : Option Cell) (ns' : List Str) (ps : List Prsn), loopF ⟨rgI sizes.length, none⟩ (gN 9) b__law_wide_house_k27_7 [0] (rgI sizes.length) [some ⟨.lst l, 1⟩, some ⟨nD sizes, 0⟩, some ⟨.lst (ns.map D.str), 1⟩, iC out, zC sc, zC sp, c6, c7, some ⟨.lst [], 1⟩, c9, c10, c11, c12, c13, none, c15, none, c17, c18, c19, c20, c21] =
      .ok (.next, [some ⟨.lst l', 1⟩, some ⟨nD sizes, 0⟩, some ⟨.lst (ns'.map D.str), 1⟩, iC out, zC sc, zC sp, c6, c7', some ⟨.lst (ps.map Prsn.d), 1⟩, c9', c10', c11', c12', c13', none, c15', none, c17, c18, c19, c20, c21]) ∧ DSl l' ∧ ps.length = sizes.length ∧
      ∀ (p : Nat) (q : Prsn), ps[p]? = some q → PrsnOk sizes.length out p (sizes.getD p 0) q := by
  have h4 := hs.n4
  obtain ⟨⟨l', ns', a7, a9, a10, a11, a12, a13, a15⟩, ps, e, ⟨g1, _⟩, hp⟩ := for_app2 (it := ⟨rgI sizes.length, none⟩) (g := gN 9) (body := b__law_wide_house_k27_7) (L := [0]) (ds := List.range sizes.length) (s := (l, ns, c7, c9, c10, c11, c12, c13, c15)) (acc := []) (fun (i : Nat) => D.int (i : Int))
    (fun (s : List D × List Str × Option Cell × Option Cell × Option Cell × Option Cell × Option Cell × Option Cell × Option Cell) (acc : List Prsn) => [some ⟨.lst s.1, 1⟩, some ⟨nD sizes, 0⟩, some ⟨.lst (s.2.1.map D.str), 1⟩, iC out, zC sc, zC sp, c6, s.2.2.1, some ⟨.lst (acc.map Prsn.d), 1⟩, s.2.2.2.1, s.2.2.2.2.1, s.2.2.2.2.2.1, s.2.2.2.2.2.2.1, s.2.2.2.2.2.2.2.1, none, s.2.2.2.2.2.2.2.2, none, c17, c18, c19, c20, c21])
    (fun r s => DSl s.1 ∧ r.length ≤ s.2.1.length ∧ s.2.1.length ≤ 1000 ∧ ∀ p ∈ r, p < sizes.length) (fun p q => PrsnOk sizes.length out p (sizes.getD p 0) q) ⟨h, by simpa using hns, hn1, by simp⟩ (by simp; omega) (fun a r s acc ⟨hs1, hs2, hs3, hs4⟩ hl => by
      rw [List.length_cons] at hs2
      have ha := hs4 a (List.mem_cons_self ..)
      have hsz := hs.s (sizes.getD a 0) (by simp [List.getElem?_eq_getElem ha])
      have hpl := pool_len
      obtain ⟨l1, a7, a12, a13, ws', ks, e1, g1, g2, g3⟩ := wkinds (c1 := some ⟨nD sizes, 0⟩) (c2 := some ⟨.lst (s.2.1.map D.str), 1⟩) (c6 := c6) (c7 := s.2.2.1) (c8 := some ⟨.lst (acc.map Prsn.d), 1⟩) (c9 := iC a) (c12 := s.2.2.2.2.2.2.1) (c13 := s.2.2.2.2.2.2.2.1) (c15 := s.2.2.2.2.2.2.2.2) (c16 := none) (c17 := c17) (c18 := c18) (c19 := c19) (c20 := c20) (c21 := c21) hs1 h1 h2 hsp (n := sizes.getD a 0) ho (ws := pool) (by omega) (by omega)
      have ex : fIx [⟨nD sizes, 0⟩, ⟨.int (a : Int), 0⟩] = .ok ⟨.int (sizes.getD a 0 : Nat), 0⟩ := ixT (map_some ha)
      have el : fLen [⟨nD sizes, 0⟩] = .ok ⟨.int (sizes.length : Int), 0⟩ := by
        have : fLen [⟨.tup (nL sizes), 0⟩] = .ok ⟨.int (sizes.length : Int), 0⟩ := by simp
        exact this
      obtain ⟨n2, l2, e2, g4, hn2⟩ := draw_e (m := 3) g1 (by decide) (by decide)
      have hsl : sizes.length ≤ 16777216 := by omega
      by_cases hn1 : n2 = 1
      · obtain ⟨l3, w, e3, g5, g8, g9⟩ := wwatch (p := a) (m := sizes.length) (c1 := some ⟨nD sizes, 0⟩) (c2 := some ⟨.lst (s.2.1.map D.str), 1⟩) (c3 := iC out) (c4 := zC sc) (c5 := zC sp) (c6 := c6) (c7 := a7) (c8 := some ⟨.lst (acc.map Prsn.d), 1⟩) (c10 := some ⟨.lst (ws'.map D.str), 1⟩) (c11 := some ⟨.lst (ks.map Kind.d), 1⟩) (c12 := a12) (c13 := a13) (c14 := none) (c15 := some ⟨.tup [], 0⟩) (c17 := c17) (c18 := c18) (c19 := c19) (c20 := c20) (c21 := c21) g4 (by omega)
        obtain ⟨x, ns2, l4, e4, g6, g7⟩ := law_pop_many (ns := s.2.1) g5 (by omega) hs3
        refine ⟨(l4, ns2, a7, iC a, some ⟨.lst (ws'.map D.str), 1⟩, some ⟨.lst (ks.map Kind.d), 1⟩, a12, a13, some ⟨nD w, 0⟩), ⟨x, ks, w⟩, ?_, ⟨g6, by simp only; omega, by simp only; omega, fun p hp => hs4 p (List.mem_cons_of_mem _ hp)⟩, ⟨g2, g3, g8, g9⟩⟩
        subst hn1
        have ew : D.tup (nL w) = nD w := rfl
        simp (maxSteps := 1000000) -implicitDefEqProofs [-List.getD_eq_getElem?_getD, step1, b__law_wide_house_k27_7, law_pool_ok, ex, rgB_nat (show sizes.getD a 0 ≤ 16777216 by omega), rgD_nat', e1, e2, el, rgB_nat hsl, hsl, e3, ew, e4, f_app (show (acc.map Prsn.d).length ≤ 10000 by simpa using hl), Prsn.d]
      · have hn1' : ((n2 : Int) = 1) = False := eq_false (by omega)
        obtain ⟨x, ns2, l4, e4, g6, g7⟩ := law_pop_many (ns := s.2.1) g4 (by omega) hs3
        refine ⟨(l4, ns2, a7, iC a, some ⟨.lst (ws'.map D.str), 1⟩, some ⟨.lst (ks.map Kind.d), 1⟩, a12, a13, some ⟨.tup [], 0⟩), ⟨x, ks, []⟩, ?_, ⟨g6, by simp only; omega, by simp only; omega, fun p hp => hs4 p (List.mem_cons_of_mem _ hp)⟩, ⟨g2, g3, by simp, by simp⟩⟩
        have ew : nD [] = .tup [] := rfl
        simp (maxSteps := 1000000) -implicitDefEqProofs [-List.getD_eq_getElem?_getD, step1, b__law_wide_house_k27_7, law_pool_ok, ex, rgB_nat (show sizes.getD a 0 ≤ 16777216 by omega), rgD_nat', e1, e2, hn1', e4, f_app (show (acc.map Prsn.d).length ≤ 10000 by simpa using hl), Prsn.d, ew])
  simp only [List.nil_append] at e
  exact ⟨l', a7, a9, a10, a11, a12, a13, a15, ns', ps, e, g1, by rw [← pr_len hp, List.length_range], fun p q e => pr_range hp e⟩
theorem wtold (h : DSl l) {n : Nat} {ns : List Str} (hn : n ≤ ns.length) (hn1 : ns.length ≤ 1000) :
    ∃ (l' : List D) (ns' ts : List Str), loopC ⟨rgI n, none⟩ (gN 7) mYes e__law_wide_house_k27_1 [7] (rgI n) [some ⟨.lst l, 1⟩, c1, some ⟨.lst (ns.map D.str), 1⟩, c3, c4, c5, c6, none, c8, c9, c10, c11, c12, c13, c14, c15, c16, c17, c18, c19, c20, c21] =
      .ok (ts.map D.str, [some ⟨.lst l', 1⟩, c1, some ⟨.lst (ns'.map D.str), 1⟩, c3, c4, c5, c6, none, c8, c9, c10, c11, c12, c13, c14, c15, c16, c17, c18, c19, c20, c21]) ∧ DSl l' ∧ ts.length = n ∧ ns'.length + n = ns.length := by
  obtain ⟨⟨l', ns'⟩, out, e, h1, ts, rfl, h2, h3⟩ := comp_rel (it := ⟨rgI n, none⟩) (g := gN 7) (tt := mYes) (me := e__law_wide_house_k27_1) (vs := [7]) (ds := List.range n) (s := (l, ns)) (acc := []) (fun (i : Nat) => D.int (i : Int))
    (fun s : List D × List Str => [some ⟨.lst s.1, 1⟩, c1, some ⟨.lst (s.2.map D.str), 1⟩, c3, c4, c5, c6, none, c8, c9, c10, c11, c12, c13, c14, c15, c16, c17, c18, c19, c20, c21]) (fun r s acc => DSl s.1 ∧ ∃ ts : List Str, acc = ts.map D.str ∧ ts.length + r.length = n ∧ s.2.length + ts.length = ns.length) ⟨h, [], rfl, by simp, by simp⟩ (fun a r s acc ⟨h1, ts, hacc, h2, h3⟩ => by
      rw [List.length_cons] at h2
      obtain ⟨x, ns2, l2, e, h4, h5⟩ := law_pop_many (ns := s.2) h1 (by omega) (by omega)
      refine ⟨(l2, ns2), some (.str x), ?_, h4, ts ++ [x], by simp [hacc], by simp; omega, by simp; omega⟩
      simp -implicitDefEqProofs [comp1, e__law_wide_house_k27_1, e])
  simp only [List.nil_append] at e h1 h2 h3 ⊢
  exact ⟨l', ns', ts, e, h1, by simpa using h2, by simp at h2; omega⟩
theorem wpaid (h : DSl l) (h1 : 1 ≤ sc) (h2 : sc ≤ 1000000) (hsp : SpOk sp) :
    ∃ (l' : List D) (ns : List Int), loopC ⟨nL sizes, none⟩ (gN 19) mYes e__law_wide_house_k27_8 [19] (nL sizes) [some ⟨.lst l, 1⟩, c1, c2, c3, zC sc, zC sp, c6, c7, c8, c9, c10, c11, c12, c13, c14, c15, c16, c17, c18, none, c20, c21] =
      .ok (ns.map D.int, [some ⟨.lst l', 1⟩, c1, c2, c3, zC sc, zC sp, c6, c7, c8, c9, c10, c11, c12, c13, c14, c15, c16, c17, c18, none, c20, c21]) ∧ DSl l' ∧ ns.length = sizes.length ∧ ∀ i ∈ ns, Bd i := by
  have hdv := wdiv hsp
  obtain ⟨l', ns, e, g1, hp⟩ := comp_draw (it := ⟨nL sizes, none⟩) (g := gN 19) (tt := mYes) (me := e__law_wide_house_k27_8) (vs := [19]) (ds := sizes) (s := l) (fun (i : Nat) => D.int (i : Int))
    (fun l => [some ⟨.lst l, 1⟩, c1, c2, c3, zC sc, zC sp, c6, c7, c8, c9, c10, c11, c12, c13, c14, c15, c16, c17, c18, none, c20, c21]) D.int DSl (fun _ i => Bd i) h (fun a _ l hl => by
      obtain ⟨n, l', i, e, g, gi, em⟩ := wnum hl h1 h2 hsp
      exact ⟨l', i, by simp -implicitDefEqProofs [comp1, e__law_wide_house_k27_8, e, hdv, em], g, gi⟩)
  exact ⟨l', ns, e, g1, by rw [← pr_len hp], pr_all hp fun _ _ z => z⟩
theorem wmenu (h : DSl l) (h1 : 1 ≤ sc) (h2 : sc ≤ 1000000) (hsp : SpOk sp) (ho : 1 ≤ out) (ho2 : out ≤ 1000) (hs : SizesOk sizes) {n : Nat} (hn : n ≤ 100) :
    ∃ (l' : List D) (c7' c18' : Option Cell) (es : List End), loopF ⟨rgI n, none⟩ (gN 7) b__law_wide_house_k27_9 [0] (rgI n) [some ⟨.lst l, 1⟩, some ⟨nD sizes, 0⟩, c2, iC out, zC sc, zC sp, c6, c7, c8, c9, c10, c11, c12, c13, c14, c15, c16, some ⟨.lst [], 1⟩, c18, none, c20, c21] =
      .ok (.next, [some ⟨.lst l', 1⟩, some ⟨nD sizes, 0⟩, c2, iC out, zC sc, zC sp, c6, c7', c8, c9, c10, c11, c12, c13, c14, c15, c16, some ⟨.lst (es.map End.d), 1⟩, c18', none, c20, c21]) ∧ DSl l' ∧ es.length = n ∧ ∀ e ∈ es, EndOk sizes.length out e := by
  have h4 := hs.n4
  obtain ⟨⟨l', a7, a18⟩, es, e, g1, hp⟩ := for_app (it := ⟨rgI n, none⟩) (g := gN 7) (body := b__law_wide_house_k27_9) (L := [0]) (ds := List.range n) (s := (l, c7, c18)) (acc := []) (fun (i : Nat) => D.int (i : Int))
    (fun (s : List D × Option Cell × Option Cell) (acc : List End) => [some ⟨.lst s.1, 1⟩, some ⟨nD sizes, 0⟩, c2, iC out, zC sc, zC sp, c6, s.2.1, c8, c9, c10, c11, c12, c13, c14, c15, c16, some ⟨.lst (acc.map End.d), 1⟩, s.2.2, none, c20, c21]) (fun s => DSl s.1) (fun _ e => EndOk sizes.length out e) h (by simp; omega) (fun a _ s acc hs2 hl => by
      obtain ⟨l2, ns, e2, g2, g3, g4⟩ := wpaid (sizes := sizes) (c1 := some ⟨nD sizes, 0⟩) (c2 := c2) (c3 := iC out) (c6 := c6) (c7 := iC a) (c8 := c8) (c9 := c9) (c10 := c10) (c11 := c11) (c12 := c12) (c13 := c13) (c14 := c14) (c15 := c15) (c16 := c16) (c17 := some ⟨.lst (acc.map End.d), 1⟩) (c18 := s.2.2) (c20 := c20) (c21 := c21) hs2 h1 h2 hsp
      obtain ⟨n, l3, e3, g5, g6⟩ := drawN_e (m := out) g2 (by omega) (by omega)
      refine ⟨(l3, iC a, some ⟨iD ns, 0⟩), ⟨n, ns⟩, ?_, g5, ⟨g6, g3, g4⟩⟩
      have ei : D.tup (ns.map D.int) = iD ns := rfl
      simp (maxSteps := 1000000) -implicitDefEqProofs [step1, b__law_wide_house_k27_9, show sizes.length ≤ 16777216 by omega, e2, ei, e3, f_app (show (acc.map End.d).length ≤ 10000 by simpa using hl), End.d])
  simp only [List.nil_append] at e
  exact ⟨l', a7, a18, es, e, g1, by rw [← pr_len hp, List.length_range], pr_all hp fun _ _ z => z⟩
theorem wends (h : DSl l) {menu : List End} (hm : 0 < menu.length) (hm2 : menu.length ≤ 100) {rows : List Row} :
    ∃ (l' : List D) (es : List End), loopC ⟨rows.map nD, none⟩ (gN 21) mYes e__law_wide_house_k27_11 [21] (rows.map nD) [some ⟨.lst l, 1⟩, c1, c2, c3, c4, c5, c6, c7, c8, c9, c10, c11, c12, c13, c14, c15, c16, some ⟨.lst (menu.map End.d), 1⟩, c18, c19, c20, none] =
      .ok (es.map End.d, [some ⟨.lst l', 1⟩, c1, c2, c3, c4, c5, c6, c7, c8, c9, c10, c11, c12, c13, c14, c15, c16, some ⟨.lst (menu.map End.d), 1⟩, c18, c19, c20, none]) ∧ DSl l' ∧ es.length = rows.length ∧ ∀ e ∈ es, e ∈ menu := by
  obtain ⟨l', es, e, g1, hp⟩ := comp_draw (it := ⟨rows.map nD, none⟩) (g := gN 21) (tt := mYes) (me := e__law_wide_house_k27_11) (vs := [21]) (ds := rows) (s := l) nD
    (fun l => [some ⟨.lst l, 1⟩, c1, c2, c3, c4, c5, c6, c7, c8, c9, c10, c11, c12, c13, c14, c15, c16, some ⟨.lst (menu.map End.d), 1⟩, c18, c19, c20, none]) End.d DSl (fun _ e => e ∈ menu) h (fun a _ l hl => by
      have hpk := pickL_s (l := l) (row := menu.map End.d) (k := 1) (by decide) hl (by simpa using hm) (by simp; omega)
      have hn := dN_ltN (l := l) (m := menu.length) hl hm (by omega)
      rw [List.length_map] at hpk
      have hg : (menu.map End.d).getD (dN l (menu.length : Nat)) .non = (menu.getD (dN l (menu.length : Nat)) default).d := by simp [List.getElem?_eq_getElem hn]
      rw [hg] at hpk
      refine ⟨dL l (menu.length : Nat), menu.getD (dN l (menu.length : Nat)) default, ?_, hl.d, by simp [List.getElem?_eq_getElem hn]⟩
      simp -implicitDefEqProofs [-List.getD_eq_getElem?_getD, comp1, e__law_wide_house_k27_11, hpk])
  exact ⟨l', es, e, g1, by rw [← pr_len hp], pr_all hp fun _ _ z => z⟩
theorem wsizes (hs : SizesOk sizes) :
    loopC ⟨nL sizes, none⟩ (gN 19) mYes e__law_wide_house_k27_10 [19] (nL sizes) [c0, c1, c2, c3, c4, c5, c6, c7, c8, c9, c10, c11, c12, c13, c14, c15, c16, c17, c18, none, c20, c21] = .ok (sizes.map fun s => D.lst (rgI s), [c0, c1, c2, c3, c4, c5, c6, c7, c8, c9, c10, c11, c12, c13, c14, c15, c16, c17, c18, none, c20, c21]) := by
  exact comp_m (it := ⟨nL sizes, none⟩) (fun (i : Nat) => D.int (i : Int)) (fun s => D.lst (rgI s)) (ds := sizes) fun s h => by
    have h8 := (hs.s s h).2
    have e1 : rgOkB 0 (s : Int) = true := rgOk_nat (by omega)
    simp -implicitDefEqProofs [comp1, e__law_wide_house_k27_10, e1, rgD_nat']
end
end S

namespace S
open Z PySem PySem.Spec PyProof.Rows L2
theorem law_wide_house_k27_e {l : List D} {sizes : List Nat} (h : DSl l) (hs : SizesOk sizes) : ∃ (H : House) (l' : List D), c__law_wide_house_k27 [⟨.lst l, 1⟩, ⟨nD sizes, 0⟩] = .ok (⟨H.d, 0⟩, [⟨.lst l', 1⟩, ⟨nD sizes, 0⟩]) ∧ DSl l' ∧ HouseOk H sizes := by
  have h4 := hs.n4
  have hpl := pool_len
  obtain ⟨o, l1, e1, g1, ho⟩ := draw_e (m := 24) h (by decide) (by decide)
  obtain ⟨sc, l2, e2, g2, hsc⟩ := pick_ints g1 (is := [1, 1000000, 1000, 1]) (by decide) (by decide)
  have hsc1 : 1 ≤ sc ∧ sc ≤ 1000000 := by
    simp only [List.mem_cons, List.not_mem_nil, or_false] at hsc
    omega
  obtain ⟨sp, l2', e2', g2', hsp⟩ := pick_ints g2 (is := [2, 2000001, 5]) (by decide) (by decide)
  have hsp1 : SpOk sp := by
    simp only [List.mem_cons, List.not_mem_nil, or_false] at hsp
    exact hsp
  obtain ⟨l3, ns3, ts, e3, g3, ht, hns⟩ := wtold (c1 := some ⟨nD sizes, 0⟩) (c3 := iC (1 + o)) (c4 := zC sc) (c5 := zC sp) (c6 := none) (c8 := none) (c9 := none) (c10 := none) (c11 := none) (c12 := none) (c13 := none) (c14 := none) (c15 := none) (c16 := none) (c17 := none) (c18 := none) (c19 := none) (c20 := none) (c21 := none) g2' (n := 1 + o) (ns := pool) (by omega) (by omega)
  obtain ⟨l4, a7, a9, a10, a11, a12, a13, a15, ns4, ps, e4, g4, hps, hpr⟩ := wpersons (sizes := sizes) (out := 1 + o) (sc := sc) (sp := sp) (c6 := some ⟨.tup (ts.map D.str), 0⟩) (c7 := none) (c9 := none) (c10 := none) (c11 := none) (c12 := none) (c13 := none) (c15 := none) (c17 := none) (c18 := none) (c19 := none) (c20 := none) (c21 := none) g3 hsc1.1 hsc1.2 hsp1 hs (by omega) (ns := ns3) (by omega) (by omega)
  obtain ⟨m, l5, e5, g5, hm⟩ := draw_e (m := 30) g4 (by decide) (by decide)
  obtain ⟨l6, b7, b18, mu, e6, g7, hmul, hmu⟩ := wmenu (sizes := sizes) (out := 1 + o) (sc := sc) (sp := sp) (c2 := some ⟨.lst (ns4.map D.str), 1⟩) (c6 := some ⟨.tup (ts.map D.str), 0⟩) (c7 := a7) (c8 := some ⟨.lst (ps.map Prsn.d), 1⟩) (c9 := a9) (c10 := a10) (c11 := a11) (c12 := a12) (c13 := a13) (c14 := none) (c15 := a15) (c16 := none) (c18 := none) (c20 := none) (c21 := none) g5 hsc1.1 hsc1.2 hsp1 (by omega) (by omega) hs (n := 2 + m) (by omega)
  have e7 := wsizes (c0 := some ⟨.lst l6, 1⟩) (c1 := some ⟨nD sizes, 0⟩) (c2 := some ⟨.lst (ns4.map D.str), 1⟩) (c3 := iC (1 + o)) (c4 := zC sc) (c5 := zC sp) (c6 := some ⟨.tup (ts.map D.str), 0⟩) (c7 := b7) (c8 := some ⟨.lst (ps.map Prsn.d), 1⟩) (c9 := a9) (c10 := a10) (c11 := a11) (c12 := a12) (c13 := a13) (c14 := none) (c15 := a15) (c16 := none) (c17 := some ⟨.lst (mu.map End.d), 1⟩) (c18 := b18) (c20 := none) (c21 := none) hs
  obtain ⟨l8, es, e8, g8, hel, he⟩ := wends (c1 := some ⟨nD sizes, 0⟩) (c2 := some ⟨.lst (ns4.map D.str), 1⟩) (c3 := iC (1 + o)) (c4 := zC sc) (c5 := zC sp) (c6 := some ⟨.tup (ts.map D.str), 0⟩) (c7 := b7) (c8 := some ⟨.lst (ps.map Prsn.d), 1⟩) (c9 := a9) (c10 := a10) (c11 := a11) (c12 := a12) (c13 := a13) (c14 := none) (c15 := a15) (c16 := none) (c18 := b18) (c19 := none) (c20 := none) g7 (menu := mu) (by omega) (by omega) (rows := rowsOf sizes)
  obtain ⟨sl, l9, e9, g9, hsl⟩ := pick_ints g8 (is := [0, 1, 4000000000000]) (by decide) (by decide)
  have hsl1 : 0 ≤ sl ∧ sl ≤ 4000000000000 := by
    simp only [List.mem_cons, List.not_mem_nil, or_false] at hsl
    omega
  have hr := hs.rows
  refine ⟨⟨ts, ps, es, sl⟩, l9, ?_, g9, ⟨hps, fun p q hq => ?_, by simp only; omega, by simp only; omega, by rw [hel, rowsOf_len], fun e h => ?_, hsl1.1, hsl1.2⟩⟩
  · have ec : (1 : Int) + (o : Int) = ((1 + o : Nat) : Int) := by omega
    have ec2 : (2 : Int) + (m : Int) = ((2 + m : Nat) : Int) := by omega
    have hro := rg_one o (by omega)
    have hrm1 : rgB 0 (2 + (m : Int)) = true := by rw [ec2]; exact rgB_nat (by omega)
    have hrm2 : rgD 0 (2 + (m : Int)) = rgI (2 + m) := by rw [ec2]; exact rgD_nat'
    simp only [iC, zC, ← ec] at e3 e4 e6 e7 e8
    have hsl16 : sizes.length ≤ 16777216 := by omega
    have ho16 : 1 + o ≤ 16777216 := by omega
    have hr16 : (rowsOf sizes).length ≤ 16777216 := by rw [rowsOf_len]; omega
    simp only [List.map_cons, List.map_nil] at e2 e2' e9
    have el : fLen [⟨nD sizes, 0⟩] = .ok ⟨.int (sizes.length : Int), 0⟩ := by
      have : fLen [⟨.tup (nL sizes), 0⟩] = .ok ⟨.int (sizes.length : Int), 0⟩ := by simp
      exact this
    have ei : itemsOf (nD sizes) = some (nL sizes) := rfl
    simp (maxSteps := 1000000) -implicitDefEqProofs [c__law_wide_house_k27, m__law_wide_house_k27, law_pool_ok, e1, e2, e2', hro.1, hro.2, e3, el, rgB_nat hsl16, rgD_nat', e4, e5, hrm1, hrm2, e6, ei, e7, rows_sizes hs, e8, e9, House.d, hsl16, ho16, hr16]
  · have := hpr p q hq
    rw [← ht] at this
    exact this
  · have := hmu e (he e h)
    rw [← ht] at this
    exact this
end S

namespace S
open Z PySem PySem.Spec PyProof.Rows L2
theorem three_loop {h : House} {sizes : List Nat} (ho : HouseOk h sizes) (hs : SizesOk sizes) {bs : List Box} (hb : ∀ b ∈ bs, BoxOf b sizes ∧ BoxIn b (sizes.map List.range)) {l : List D} (hl : DSl l) {c0 c3 c4 c5 : Option Cell} :
    ∃ l' c6, loopF ⟨bs.map Box.d, none⟩ (gN 6) b_law_k27_1 [] (bs.map Box.d) [c0, some ⟨.lst l, 1⟩, some ⟨h.d, 0⟩, c3, c4, c5, none] = .ok (.next, [c0, some ⟨.lst l', 1⟩, some ⟨h.d, 0⟩, c3, c4, c5, c6]) := by
  obtain ⟨s', e, _⟩ := for_rel (it := ⟨bs.map Box.d, none⟩) (g := gN 6) (body := b_law_k27_1) (L := []) (ds := bs) (s := (l, none)) Box.d
    (fun s : List D × Option Cell => [c0, some ⟨.lst s.1, 1⟩, some ⟨h.d, 0⟩, c3, c4, c5, s.2]) (fun r s => DSl s.1 ∧ ∀ b ∈ r, BoxOf b sizes ∧ BoxIn b (sizes.map List.range)) ⟨hl, hb⟩ (fun a r s ⟨h1, h2⟩ => by
      obtain ⟨q1, q2⟩ := h2 a (List.mem_cons_self ..)
      obtain ⟨l1, e1, g1⟩ := law_box_right_ok ho hs q1 q2 (most := 3) (by decide) (by decide) h1
      rw [show ((3 : Nat) : Int) = 3 from rfl] at e1
      refine ⟨(l1, some ⟨Box.d a, 0⟩), ?_, g1, fun p hp => h2 p (List.mem_cons_of_mem _ hp)⟩
      simp (maxSteps := 1000000) -implicitDefEqProofs [step1, b_law_k27_1, e1])
  exact ⟨s'.1, s'.2, e⟩
theorem pure_k27 (ns : List Int) (hl : ns.length ≤ 63) : ∃ fs, c_law_k27 [⟨.scr (ns.map D.int), 0⟩] = .ok (Cell.fz (.bl true), fs) := by
  obtain ⟨l0, hb, hd0⟩ := begin_s hl
  generalize D.scr (ns.map D.int) = sd at *
  obtain ⟨n, l1, e1, g1, hn⟩ := draw_e (m := 8) hd0 (by decide) (by decide)
  have boxes : ∀ (h : House) (sizes : List Nat), HouseOk h sizes → SizesOk sizes → (BoxOf h.whole sizes ∧ BoxIn h.whole (sizes.map List.range)) ∧ (∀ l, DSl l → ∃ (b : Box) (l' : List D), c__law_drawn_box [⟨.lst l, 1⟩, ⟨Box.d h.whole, 0⟩] = .ok (⟨Box.d b, 0⟩, [⟨.lst l', 1⟩, ⟨Box.d h.whole, 0⟩]) ∧ DSl l' ∧ BoxOf b sizes ∧ BoxIn b (sizes.map List.range)) := by
    intro h sizes ho hs
    have hw := whole_ok ho
    have h4 := hs.n4
    have hz : ∀ z ∈ h.whole, z ≠ [] ∧ z.length ≤ 8 := fun z hz => by
      rw [hw] at hz
      obtain ⟨s, h1, rfl⟩ := List.mem_map.mp hz
      have := hs.s s h1
      refine ⟨fun z => ?_, by rw [List.length_range]; exact this.2⟩
      have := congrArg List.length z
      rw [List.length_range] at this
      simp at this
      omega
    have hin : BoxIn h.whole (sizes.map List.range) := by rw [hw]; exact BoxIn.self (by rw [← hw]; exact fun z h => (hz z h).1)
    refine ⟨⟨BoxOf.of hs hin, hin⟩, fun l hl => ?_⟩
    obtain ⟨b, l', e, g, hb⟩ := law_drawn_box_e hl (fun z h => (hz z h).1) (by rw [hw, List.length_map]; omega) (fun z h => by have := (hz z h).2; omega)
    have hin2 : BoxIn b (sizes.map List.range) := by rw [← hw]; exact hb
    exact ⟨b, l', e, g, BoxOf.of hs hin2, hin2⟩
  refine ⟨[⟨sd, 0⟩], ?_⟩
  by_cases hn3 : n = 3
  · have hn3' : ((n : Int) = 3) = True := eq_true (by omega)
    obtain ⟨sizes, l2, e2, g2, hs⟩ := law_wide_sizes_e g1
    obtain ⟨h, l3, e3, g3, ho⟩ := law_wide_house_k27_e g2 hs
    have e4 := law_whole_ok ho hs
    obtain ⟨⟨hb1, hi1⟩, hb2⟩ := boxes h sizes ho hs
    obtain ⟨m, l4, e5, g4, hm⟩ := draw_e (m := 2) g3 (by decide) (by decide)
    by_cases hm1 : m = 1
    · have hm1' : ((m : Int) = 1) = True := eq_true (by omega)
      obtain ⟨b, l5, e6, g5, hb3, hi3⟩ := hb2 l4 g4
      obtain ⟨l6, e7, g6⟩ := law_box_right_ok ho hs hb3 hi3 (most := 1) (by decide) (by decide) g5
      rw [show ((1 : Nat) : Int) = 1 from rfl] at e7
      simp (maxSteps := 1000000) -implicitDefEqProofs [c_law_k27, m_law_k27, hb, e1, hn3', e2, e3, e4, e5, hm1', e6, e7]
    · have hm1' : ((m : Int) = 1) = False := eq_false (by omega)
      obtain ⟨l6, e7, g6⟩ := law_box_right_ok ho hs hb1 hi1 (most := 1) (by decide) (by decide) g4
      rw [show ((1 : Nat) : Int) = 1 from rfl] at e7
      simp (maxSteps := 1000000) -implicitDefEqProofs [c_law_k27, m_law_k27, hb, e1, hn3', e2, e3, e4, e5, hm1', e7]
  · have hn3' : ((n : Int) = 3) = False := eq_false (by omega)
    obtain ⟨sizes, l2, e2, g2, hs, _⟩ := law_sizes_e (lim := 18) g1 (by decide) (by decide)
    rw [show ((18 : Nat) : Int) = 18 from rfl] at e2
    obtain ⟨m, l3, e3, g3, hm⟩ := draw_e (m := 2) g2 (by decide) (by decide)
    by_cases hm1 : m = 1
    · have hm1' : ((m : Int) = 1) = True := eq_true (by omega)
      obtain ⟨pay, l4, e4, g4, hp1⟩ := draw_e (m := 3) g3 (by decide) (by decide)
      obtain ⟨h, hr, l5, e5, g5, ho, _⟩ := law_heard_house_e (worths := 3) (pay := pay) g4 hs (by decide) (by decide) (by omega)
      rw [show ((3 : Nat) : Int) = 3 from rfl] at e5
      have e6 := law_whole_ok ho hs
      obtain ⟨hw1, hb2⟩ := boxes h sizes ho hs
      obtain ⟨b, l6, e7, g7, hb3⟩ := hb2 l5 g5
      obtain ⟨l7, c6, e8⟩ := three_loop ho hs (bs := [b, h.whole, b]) (fun x hx => by
        simp only [List.mem_cons, List.not_mem_nil, or_false] at hx
        rcases hx with rfl | rfl | rfl
        · exact hb3
        · exact hw1
        · exact hb3) g7 (c0 := some ⟨sd, 0⟩) (c3 := some ⟨Box.d h.whole, 0⟩) (c4 := some ⟨nD sizes, 0⟩) (c5 := some ⟨Box.d b, 0⟩)
      simp only [List.map_cons, List.map_nil] at e8
      have ex : fIx [⟨.tup [h.d, hr.d], 0⟩, ⟨.int 0, 0⟩] = .ok ⟨h.d, 0⟩ := ixT0
      simp (maxSteps := 1000000) -implicitDefEqProofs [c_law_k27, m_law_k27, hb, e1, hn3', e2, e3, hm1', e4, e5, ex, e6, e7, e8]
    · have hm1' : ((m : Int) = 1) = False := eq_false (by omega)
      obtain ⟨o, l4, e4, g4, ho1⟩ := draw_e (m := 3) g3 (by decide) (by decide)
      obtain ⟨pay, l4b, e4b, g4b, hp1⟩ := draw_e (m := 3) g4 (by decide) (by decide)
      obtain ⟨h, l5, e5, g5, ho⟩ := law_house_e (out := 2 + o) (worths := 3) (pay := pay) g4b hs (by omega) (by omega) (by decide) (by decide) (by omega)
      rw [show ((2 + o : Nat) : Int) = 2 + (o : Int) by omega, show ((3 : Nat) : Int) = 3 from rfl] at e5
      have e6 := law_whole_ok ho hs
      obtain ⟨hw1, hb2⟩ := boxes h sizes ho hs
      obtain ⟨b, l6, e7, g7, hb3⟩ := hb2 l5 g5
      obtain ⟨l7, c6, e8⟩ := three_loop ho hs (bs := [b, h.whole, b]) (fun x hx => by
        simp only [List.mem_cons, List.not_mem_nil, or_false] at hx
        rcases hx with rfl | rfl | rfl
        · exact hb3
        · exact hw1
        · exact hb3) g7 (c0 := some ⟨sd, 0⟩) (c3 := some ⟨Box.d h.whole, 0⟩) (c4 := some ⟨nD sizes, 0⟩) (c5 := some ⟨Box.d b, 0⟩)
      simp only [List.map_cons, List.map_nil] at e8
      simp (maxSteps := 1000000) -implicitDefEqProofs [c_law_k27, m_law_k27, hb, e1, hn3', e2, e3, hm1', e4, e4b, e5, e6, e7, e8]
end S
theorem PySem.Challenge.cw_plainhearing_k27_worst_and_best_holds : PySem.Challenge.rw_plainhearing_k27_worst_and_best.Holds := by
  exact P_k27.end_ S.pure_k27

