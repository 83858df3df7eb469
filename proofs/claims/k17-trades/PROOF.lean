import PyProof.Rows.All
import Wide.All
import OpenK.AllK
import Wide.FinOn
import HandS.ForMost
import HandS.TupAny
import HandS.Deep
import HandS.Conv
import HandS.IsInst
import HandS.Flow
import HandS.Defaults
import HandS.Strs
import HandS.Wide
import KE.KDictKeyed
import HandS.HeadEnd
import HandS.SortRule
import HandS.TupLe
import KE.KSortTupAny
import HandS.SortInts
import HandS.TupSets
import HandS.Iter
import HandS.Comp
import HandS.Style
import PyProof.ReprRoads
import PyProof.StrLawsRepr
import HandS.FStrTup
import HandS.SetFor
import KE.KStateDown
import Lean
import HandS.Head0
import HandS.Head1
import HandS.Head2
import HandS.HeadHook1
import HandS.HeadHook2
import PySem.Challenge.RW_plainhearing_k17_trades
set_option Elab.async false
set_option linter.all false
set_option maxRecDepth 100000
set_option maxHeartbeats 0
/-! Z0: tuples whose object is known, tuple.index, the item of a list as it is read in an augmented store. -/
namespace Z
open PySem PySem.Spec PyProof.Rows L2
section
variable {X : Cx}
/-- a tuple laid: its object is known -/
theorem Inv.tupF {pins : List (Addr × Obj)} {σ : L2.St} {H : Hp} {s : Shared} {a : Addr} {xs : List V} {its : List Value} {h' : Heap} {t' : Nat} (I : Inv X pins σ H s) (k : ∀ b u, s.heap.get? b = some u → h'.get? b = some u) (hp : s.heap.objs.size ≤ a)
    (e : h'.get? a = some { cls := .type "tuple", data := .seq its.toArray }) (r : Vals xs its) (hz : xs.length ≤ sizeLine) : Inv X pins σ (upd H a (.frz { cls := .type "tuple", data := .seq its.toArray } (.tup xs))) { s with heap := h', toks := t' } :=
  I.laid k hp ⟨e, hz, its, r, ⟨_, e, rfl, _, rfl⟩⟩
def tTupF (t : TA) : TE := fun σ H Q => t σ H fun xs H1 => xs.length ≤ sizeLine ∧ ∀ p o, H1 p = none → o.dict = none → Q (.ref p) (upd H1 p (.frz o (.tup xs)))
theorem pe_tupF {es : List Expr} {t : TA} {pos : Pos} {x1 : Nat} (h : PA X es t) : PE X (.Tuple es x1 pos) (tTupF t) := by
  refine ⟨fun pins s σ H Q I hq => ?_⟩
  refine wpAny_Tuple_spliced (thn (h.run pos pins s σ H _ I hq) fun us s1 ⟨xs, H1, I1, r, z, q⟩ => ⟨by rw [← r.length]; exact z, ?_⟩)
  have hf : H1 s1.heap.objs.size = none := I1.hok.fresh (Nat.le_refl _)
  exact ⟨.ref s1.heap.objs.size, _, Inv.tupF (t' := s1.toks) I1 (fun b u e => Heap.get?_push_of_some _ e) (Nat.le_refl _) (Heap.get?_push_size _ rfl) r z, rfl, q _ _ hf rfl⟩
theorem call_tuple_ofF : CallR X (.type "tuple") (fun xs H Q => ∃ p ys, xs = [.ref p] ∧ ((SqL X.K H p ys ∧ ∀ l o, H l = none → o.dict = none → Q (.ref l) (upd H l (.frz o (.tup ys)))) ∨ (SqT X.K H p ys ∧ Q (.ref p) H))) := by
  intro pins s σ H xs us Q I r h
  obtain ⟨p, ys, rfl, h⟩ := h
  obtain ⟨u, rfl, rx⟩ := vals1 r
  cases rx
  rcases h with ⟨hq, q⟩ | ⟨hq, q⟩
  · obtain ⟨its, r', pl, hz⟩ := I.list hq
    have hlen := r'.length
    refine call_tuple_list pl.isList (fun h' kp => ?_) (by simp only [List.size_toArray] <;> omega)
    have I1 : Inv X pins σ H { s with heap := h' } := I.kept (t' := s.toks) kp
    have I2 := Inv.tupF (h' := h'.push { cls := .type "tuple", data := .seq its.toArray }) (t' := s.toks) I1 (fun b o e => Heap.get?_push_of_some _ e) (Nat.le_refl _) (Heap.get?_push_size _ rfl) r' hz
    exact ⟨.ref h'.objs.size, _, I2, rfl, q _ _ (I1.hok.fresh (Nat.le_refl _)) rfl⟩
  · obtain ⟨its, r', pl, hz⟩ := I.tuple hq
    exact call_tuple_same pl ⟨.ref p, H, I, rfl, q⟩
def rCatF (K : PySem.W.Frag) : R2 := fun x y H Q => ∃ a b xs ys, x = .ref a ∧ y = .ref b ∧ SqT K H a xs ∧ SqT K H b ys ∧ xs.length + ys.length ≤ sizeLine ∧
  (xs = [] → Q (.ref b) H) ∧ (xs ≠ [] → ys = [] → Q (.ref a) H) ∧ (xs ≠ [] → ys ≠ [] → ∀ p o, H p = none → o.dict = none → Q (.ref p) (upd H p (.frz o (.tup (xs ++ ys)))))
theorem op_catF : OpR X (binaryOp .Add) (rCatF X.K) := by
  intro pins s σ H x y v u Q I rx ry h
  obtain ⟨a, b, xs, ys, rfl, rfl, ha, hb, hz, q0, q1, q2⟩ := h
  cases rx
  cases ry
  obtain ⟨its, r1, p1, _⟩ := I.tuple ha
  obtain ⟨its2, r2, p2, _⟩ := I.tuple hb
  by_cases hx : xs = []
  · subst hx
    cases r1
    exact cat_tup0 p1 p2 ⟨.ref b, H, I, rfl, q0 rfl⟩
  · refine HT.cat_tup p1 p2 (fun z => hx (r1.nil_iff.mp z)) (fun z => ⟨.ref a, H, I, rfl, q1 hx (r2.nil_iff.mp z)⟩) (fun z => ?_) (by rw [← r1.length, ← r2.length]; exact hz)
    exact ⟨.ref s.heap.objs.size, _, Inv.tupF (t' := s.toks) I (fun b ob q => Heap.get?_push_of_some _ q) (Nat.le_refl _) (Heap.get?_push_size _ rfl) (r1.append r2) (by rw [List.length_append]; exact hz), rfl, q2 hx (fun w => z (r2.nil_iff.mpr w)) _ _ (I.hok.fresh (Nat.le_refl _)) rfl⟩
def rSlF (K : PySem.W.Frag) : V → Option Int → Option Int → Hp → VK → Prop := fun x lo hi H Q => ∃ a xs, x = .ref a ∧ SqT K H a xs ∧
  (HT.sIx xs.length 0 lo = 0 ∧ HT.sIx xs.length xs.length hi = xs.length → Q (.ref a) H) ∧ (¬ (HT.sIx xs.length 0 lo = 0 ∧ HT.sIx xs.length xs.length hi = xs.length) → ∀ p o, H p = none → o.dict = none → Q (.ref p) (upd H p (.frz o (.tup (cutV xs lo hi)))))
theorem sl_tupF : SlR X (rSlF X.K) := by
  intro pins s σ H x v vl vu lo hi sl Q I rx hs pl pu h
  obtain ⟨a, xs, rfl, hx, q1, q2⟩ := h
  cases rx
  obtain ⟨its, r, ht, hz⟩ := I.tuple hx
  have hlen : its.toArray.size = xs.length := by rw [List.size_toArray]; exact r.length.symm
  by_cases hw : HT.sIx xs.length 0 lo = 0 ∧ HT.sIx xs.length xs.length hi = xs.length
  · refine ⟨"tuple", _, PyProof.Rows.slot_tuple_getitem.lookup, ht.typeIs, ?_⟩
    exact getItem_tuple_whole ht hs pl pu (by rw [hlen]; exact hw) ⟨.ref a, H, I, rfl, q1 hw⟩
  · refine ⟨"tuple", _, PyProof.Rows.slot_tuple_getitem.lookup, ht.typeIs, ?_⟩
    refine HT.getItem_tuple_cut ht hs pl pu (by rw [hlen]; exact hw) ?_ (by rw [hlen]; exact hz)
    rw [hlen]
    exact ⟨.ref s.heap.objs.size, _, Inv.tupF (t' := s.toks) I (fun b ob q => Heap.get?_push_of_some _ q) (Nat.le_refl _) (Heap.get?_push_size _ rfl) ((r.drop (HT.sIx xs.length 0 lo)).take (HT.sIx xs.length xs.length hi - HT.sIx xs.length 0 lo)) (Nat.le_trans (cutV_length xs lo hi) hz), rfl, q2 hw _ _ (I.hok.fresh (Nat.le_refl _)) rfl⟩
/-! ### tuple.index of data -/
/-- a tuple as a method's receiver -/
def TupRc (K : PySem.W.Frag) (H : Hp) (p : Addr) : Prop := (∃ o xs, H p = some (.frz o (.tup xs)) ∧ o.dict = none) ∨ ∃ o, K.lookup p = some o ∧ o.cls = .type "tuple" ∧ o.dict = none
theorem tupRc_is {pins : List (Addr × Obj)} {σ : L2.St} {H : Hp} {s : Shared} {p : Addr} (I : Inv X pins σ H s) (h : TupRc X.K H p) : s.TypeIs (.ref p) "tuple" ∧ ∀ a, Value.ref p = .ref a → ∃ ob, s.heap.get? a = some ob ∧ ob.dict = none := by
  rcases h with ⟨o, xs, hp, hd⟩ | ⟨o, hk, hc, hd⟩
  · obtain ⟨e, _, its, _, o', e', c', _⟩ := I.hok p _ hp
    exact ⟨⟨o', e', c'⟩, fun a q => by cases q; exact ⟨o, e, hd⟩⟩
  · exact ⟨⟨o, I.kIn p o hk, hc⟩, fun a q => by cases q; exact ⟨o, I.kIn _ o hk, hd⟩⟩
def tTM (K : PySem.W.Frag) (r : V → List V → Hp → VK → Prop) (to : TE) (t : TA) : TE := fun σ H Q => to σ H fun x H1 => (∃ p, x = .ref p ∧ TupRc K H1 p) ∧ t σ H1 fun xs H2 => r x xs H2 Q
theorem pe_tm {o e : Expr} {es : List Expr} {to : TE} {t : TA} {name : Str} {apos cpos : Pos} {id : String} {r : V → List V → Hp → VK → Prop} (slot : Slot "tuple" name id) (hty : typeOf (.builtin id) = pure (.type "method_descriptor")) (hm : MtR X id r) (ho : PE X o to) (ha : PA X (e :: es) t)
    (hbase : attributeBase o name X.env (eval o X.env) = eval o X.env := by rfl)
    (hfew : ((backTo cpos (starEach (e :: es) X.env)).all (fun x => !x.1) && (backToKw cpos (keywordEach [] X.env)).all (fun x => x.1.isSome)
      && decide ((e :: es).length + ([] : List Keyword).length + (if ([] : List Keyword).isEmpty then 0 else 1) < 30)) = true := by rfl)
    (hline : (apos.endLine == cpos.line) = true := by rfl) (hs : starEach (e :: es) X.env = (false, eval e X.env) :: starEach es X.env := by rfl) (hplain : (backTo cpos (starEach es X.env)).any (·.1) = false := by rfl) :
    PE X (.Call (.Attribute o name apos) (e :: es) [] cpos) (tTM X.K r to t) := by
  refine ⟨fun pins s σ H Q I h => ?_⟩
  refine wpAny_Call_method_late hbase hfew hline rfl (thn (ho.run pins s σ H _ I h) fun v s1 ⟨x, H1, I1, r1, ⟨p, ex, ty⟩, q1⟩ => ?_)
  subst ex
  cases r1
  obtain ⟨h1, h2⟩ := tupRc_is I1 ty
  refine ⟨"tuple", id, PySem.F.plainAttrs_tuple, slot, hty, h1, h2, ?_⟩
  have hA := ha.run cpos pins s1 σ H1 _ I1 q1
  rw [hs] at hA ⊢
  refine Calls.callWith_builtin (by show (false || (backTo cpos (starEach es X.env)).any (·.1)) = false; rw [hplain] <;> rfl) (Calls.evalArgs_plain ?_)
  exact thn hA fun us s2 ⟨vs, H2, I2, r2, q2⟩ => hm pins s2 σ H2 (.ref p) vs _ us Q I2 rfl r2 q2
def rTIndexD (K : PySem.W.Frag) : V → List V → Hp → VK → Prop := fun x xs H Q => ∃ (a : Addr) (y : V) (d : PyData) (ds : List PyData) (j : Nat) (z : PyData), x = V.ref a ∧ xs = [y] ∧ Dp K H (V.ref a) (.tuple ds) ∧ Dp K H y d ∧
  SeqAt.shaped (.tuple ds) = true ∧ SeqAt.shaped d = true ∧ ds[j]? = some z ∧ PyData.eqv z d = true ∧ (∀ (m : Nat) (z' : PyData), m < j → ds[m]? = some z' → PyData.eqv z' d = false) ∧ Q (.int (j : Nat)) H
theorem mt_tindexD (hu : X.A.units + 65 < cLine) : MtR X "tuple.index" (rTIndexD X.K) := by
  intro pins s σ H x xs v us Q I rx rxs h
  obtain ⟨a, y, d, ds, j, z, rfl, rfl, hl, hy, sl, sd, hz, hzj, hno, q⟩ := h
  cases rx
  cases rxs with
  | cons ry rt =>
    rename_i uy ut
    cases rt
    obtain ⟨bs, r1⟩ := Dp.reads I d y uy hy ry
    have hxs : PyData.canLayAll0 ds = true := SeqAt.canLay_of_shaped sl
    have hroom : X.A.units + 1 + min (PyData.depthAll ds) d.depth < cLine := room_in_shaped sd hu
    cases hl with
    | tup hs ha =>
      obtain ⟨its, rv, ⟨⟨cls, dd, data, sls⟩, ho, hc, n, hdt⟩, hlen⟩ := I.tuple hs
      simp only at hc hdt
      subst hc hdt
      obtain ⟨as, h4⟩ := Dp.readsAll I ds _ its ha rv
      have hn : its.length = ds.length := SeqAt.ReadsAll.length ds its as h4
      have hmap : its.map (SeqAt.readOf s.heap) = ds := SeqAt.readsAll_map ds its as hxs h4
      have hvl := rv.length
      have hsl := sizeLine_eq
      obtain ⟨hjd, _⟩ := List.getElem?_eq_some_iff.mp hz
      have hjl : j < its.length := by omega
      have hj : j < its.toArray.size := by simpa using hjl
      have at_ : ∀ (m : Nat) (hm : m < its.toArray.size) (z' : PyData), ds[m]? = some z' → SeqAt.readOf s.heap its.toArray[m] = z' := by
        intro m hm z' hz'
        have hml : m < its.length := by simpa using hm
        rw [← hmap, List.getElem?_map, List.getElem?_eq_getElem hml] at hz'
        have e1 : SeqAt.readOf s.heap its[m] = z' := Option.some.inj (show some (SeqAt.readOf s.heap its[m]) = some z' from hz')
        simpa using e1
      refine call_meets PySem.F.slot_tuple_index ⟨_, ho, rfl⟩ PySem.F.entry_tuple_index (PySem.F.args_tuple_index_2 _ _)
        (TI.tuple_indexAt a its.toArray n dd sls uy (fun u => PyData.eqv (SeqAt.readOf s.heap u) d) j hj ?_ ?_) ⟨ho, SeqAt.items_eqAt (vs := its.toArray) (show ReadsAll s.heap its.toArray.toList ds as from h4) r1 hxs (SeqAt.canLay_of_shaped sd) hroom, ?_⟩
      · show PyData.eqv (SeqAt.readOf s.heap its.toArray[j]) d = true
        rw [at_ j hj z hz]
        exact hzj
      · intro m hm hmj
        have hmd : m < ds.length := by omega
        have hz' : ds[m]? = some ds[m] := List.getElem?_eq_getElem hmd
        show PyData.eqv (SeqAt.readOf s.heap its.toArray[m]) d = false
        rw [at_ m hm _ hz']
        exact hno m _ hmj hz'
      · exact ⟨.int (j : Nat), H, I.tok _, ⟨_, rfl⟩, q⟩

/-! ### xs[i] read by values, for xs[i] op= e -/
theorem get_list : PGet X (rIxL X.K) := by
  intro pins s σ H o i ov iv Q I ro ri h
  obtain ⟨p, xs, k, z, rfl, rfl, hq, he, q⟩ := h
  cases ro
  obtain ⟨t, rfl⟩ := ri
  obtain ⟨its, r, pl, hz⟩ := I.list hq
  obtain ⟨j, h1, h2, h3, h4, h5⟩ := atI_get he
  obtain ⟨w, ew, rw'⟩ := r.get h2
  have hl := r.length
  have hn := line63
  have fin : EP X pins σ Q w s := ⟨z, H, I, rw', q⟩
  by_cases h0 : 0 ≤ k
  · have hj : k.toNat = j := by
      rw [seqIndex_of h0 h5] at h1
      exact Option.some.inj h1
    exact wpAny_getItem_list pl.isList h0 (by omega) (by rw [hj]; simpa using ew) fin
  · have hj : (k + (its.toArray.size : Int)).toNat = j := by
      rw [seqIndex_neg (by omega) h4] at h1
      rw [List.size_toArray, ← hl]
      exact Option.some.inj h1
    exact wpAny_getItem_list_neg pl.isList (by omega) (by rw [List.size_toArray] <;> omega) (by omega) (by rw [hj]; simpa using ew) fin
end
end Z

/-! Z: values without a heap, and how they lie in the heap. -/
namespace Z
open PySem PySem.Spec PyProof.Rows L2

inductive D where
  | non | bl (b : Bool) | int (i : Int) | str (x : Str) | tup (l : List D) | lst (l : List D) | dct (ks : List D) (l : List D) | scr (l : List D)
  deriving Inhabited

mutual
def D.beq : D → D → Bool
  | .non, .non => true
  | .bl a, .bl b => a == b
  | .int a, .int b => a == b
  | .str a, .str b => a == b
  | .tup a, .tup b => D.beqL a b
  | .lst a, .lst b => D.beqL a b
  | .dct k a, .dct j b => D.beqL k j && D.beqL a b
  | .scr a, .scr b => D.beqL a b
  | _, _ => false
def D.beqL : List D → List D → Bool
  | [], [] => true
  | x :: xs, y :: ys => D.beq x y && D.beqL xs ys
  | _, _ => false
end
mutual
theorem D.beq_self : ∀ d : D, d.beq d = true
  | .non => by simp [D.beq]
  | .bl _ => by simp [D.beq]
  | .int _ => by simp [D.beq]
  | .str _ => by simp [D.beq]
  | .tup l => by simp [D.beq, D.beqL_self l]
  | .lst l => by simp [D.beq, D.beqL_self l]
  | .dct k l => by simp [D.beq, D.beqL_self k, D.beqL_self l]
  | .scr l => by simp [D.beq, D.beqL_self l]
theorem D.beqL_self : ∀ l : List D, D.beqL l l = true
  | [] => by simp [D.beqL]
  | x :: xs => by simp [D.beqL, D.beq_self x, D.beqL_self xs]
end
mutual
theorem D.beq_eq : ∀ d e : D, d.beq e = true → d = e
  | .non, e, h => by cases e <;> simp [D.beq] at h <;> rfl
  | .bl _, e, h => by cases e <;> simp [D.beq] at h <;> simp [h]
  | .int _, e, h => by cases e <;> simp [D.beq] at h <;> simp [h]
  | .str _, e, h => by cases e <;> simp [D.beq] at h <;> simp [h]
  | .tup l, e, h => by cases e <;> simp [D.beq] at h <;> rw [D.beqL_eq _ _ h]
  | .lst l, e, h => by cases e <;> simp [D.beq] at h <;> rw [D.beqL_eq _ _ h]
  | .dct k l, e, h => by cases e <;> simp [D.beq] at h <;> rw [D.beqL_eq _ _ h.1, D.beqL_eq _ _ h.2]
  | .scr l, e, h => by cases e <;> simp [D.beq] at h <;> rw [D.beqL_eq _ _ h]
theorem D.beqL_eq : ∀ l m : List D, D.beqL l m = true → l = m
  | [], m, h => by cases m <;> simp [D.beqL] at h <;> rfl
  | x :: xs, m, h => by
    cases m with
    | nil => simp [D.beqL] at h
    | cons y ys => simp [D.beqL] at h; rw [D.beq_eq _ _ h.1, D.beqL_eq _ _ h.2]
end
instance : DecidableEq D := fun a b => if h : D.beq a b = true then .isTrue (D.beq_eq a b h) else .isFalse fun e => h (e ▸ D.beq_self a)

/-! ### keys of dicts -/
/-- a key: a number or a text -/
def kD : Key → D
  | .inl i => .int i
  | .inr x => .str x
mutual
def D.nk : D → NestedKey
  | .int i => .num i
  | .tup l => .tup (D.nkL l)
  | _ => .none
def D.nkL : List D → List NestedKey
  | [] => []
  | d :: r => D.nk d :: D.nkL r
end
/-- numbers, None and tuples of these, n deep -/
def D.kk : Nat → D → Bool
  | _, .int _ => true
  | _, .non => true
  | n + 1, .tup l => l.all (D.kk n)
  | _, _ => false
def D.tk : D → Bool
  | .tup l => l.all (D.kk 7)
  | _ => false
/-- the object of a dict whose keys are tuples, entry by entry -/
def ExD (ob : Obj) (a : Addr) (xs : List (D × Addr × Value)) : Prop :=
  (a == sysModules) = false ∧ ob.ExactDict ∧ xs.length ≤ sizeLine ∧ xs ≠ [] ∧ (∀ x ∈ xs, x.1.tk = true) ∧ (xs.map fun x => x.1.nk).Nodup ∧
  ∃ es ep, ob.data = .dict es ep ∧ ∀ W : World, es.toList = xs.map fun x => ⟨x.1.nk.hash W, .ref x.2.1, x.2.2⟩

/-! ### who may write -/
inductive Own where
  | no | out | sl (i : Nat) | tm (n : Nat)
  deriving DecidableEq
abbrev OM := Addr → Own
def OM.re (w : OM) (o o' : Own) : OM := fun a => if w a = o then o' else w a
theorem OM.re_eq {w : OM} {o o' : Own} {a : Addr} (h : w a = o) : w.re o o' a = o' := by unfold OM.re; rw [if_pos h]
theorem OM.re_ne {w : OM} {o o' : Own} {a : Addr} (h : w a ≠ o) : w.re o o' a = w a := by unfold OM.re; rw [if_neg h]
def OM.put (w : OM) (p : Addr) (o : Own) : OM := fun a => if a = p then o else w a
theorem OM.put_same {w : OM} {p : Addr} {o : Own} : w.put p o p = o := by unfold OM.put; rw [if_pos rfl]
theorem OM.put_ne {w : OM} {p a : Addr} {o : Own} (h : a ≠ p) : w.put p o a = w a := by unfold OM.put; rw [if_neg h]

section
variable (K : PySem.W.Frag) (H : Hp) (w : OM)
def TupAt (a : Addr) (vs : List V) : Prop := ((∃ o, H a = some (.frz o (.tup vs)) ∧ o.dict = none) ∧ w a = .no) ∨
  ∃ (o : Obj) (its : Array Value) (n : Nat), K.lookup a = some o ∧ o.cls = .type "tuple" ∧ o.dict = none ∧ o.data = .seq its n ∧ its.size ≤ sizeLine ∧ Vals vs its.toList
def LstAt (a : Addr) (vs : List V) : Prop := (Rd H a (.lst vs) ∧ w a = .no) ∨
  ∃ (o : Obj) (its : Array Value) (n : Nat), K.lookup a = some o ∧ o.cls = .type "list" ∧ o.dict = none ∧ o.data = .seq its n ∧ its.size ≤ sizeLine ∧ Vals vs its.toList
mutual
/-- a value that nobody changes any more -/
inductive Fz : D → V → Prop
  | non : Fz .non .non
  | bl (b : Bool) : Fz (.bl b) (.bl b)
  | int (i : Int) : Fz (.int i) (.int i)
  | str (x : Str) : Fz (.str x) (.str x)
  | tup {a : Addr} {vs : List V} {ds : List D} : TupAt K H w a vs → FzL ds vs → Fz (.tup ds) (.ref a)
  | lst {a : Addr} {vs : List V} {ds : List D} : H a = some (.lst vs) → w a = .no → FzL ds vs → Fz (.lst ds) (.ref a)
  | scr {a : Addr} {vs : List V} {ds : List D} : LstAt K H w a vs → FzL ds vs → Fz (.scr ds) (.ref a)
  | dct {a : Addr} {kvs : List (Key × V)} {ks : List D} {ds : List D} : Rd H a (.dK kvs) → w a = .no → (kvs.map fun p => kD p.1) = ks → FzL ds (kvs.map (·.2)) → Fz (.dct ks ds) (.ref a)
  | dcu {a : Addr} {ob : Obj} {xs : List (D × Addr × Value)} {ks ds : List D} {vs : List V} : H a = some (.ext fun h => h.get? a = some ob) → w a = .no → ExD ob a xs → xs.map (·.1) = ks → FzL ks (xs.map fun x => .ref x.2.1) → Vals vs (xs.map (·.2.2)) → FzL ds vs → Fz (.dct ks ds) (.ref a)
inductive FzL : List D → List V → Prop
  | nil : FzL [] []
  | cons {d : D} {v : V} {ds : List D} {vs : List V} : Fz d v → FzL ds vs → FzL (d :: ds) (v :: vs)
end
inductive Ow1L (o : Own) : List D → List V → Prop
  | nil : Ow1L o [] []
  | cons {a : Addr} {ws : List V} {e : List D} {ds : List D} {vs : List V} : H a = some (.lst ws) → w a = o → FzL K H w e ws → Ow1L o ds vs → Ow1L o (.lst e :: ds) (.ref a :: vs)
/-- a value owned by o, k levels deep -/
inductive Ow (o : Own) : Nat → D → V → Prop
  | fz {d : D} {v : V} : Fz K H w d v → Ow o 0 d v
  | lst {a : Addr} {vs : List V} {ds : List D} : H a = some (.lst vs) → w a = o → FzL K H w ds vs → Ow o 1 (.lst ds) (.ref a)
  | dct {a : Addr} {kvs : List (Key × V)} {ks : List D} {ds : List D} : H a = some (.dK kvs) → w a = o → (kvs.map fun p => kD p.1) = ks → FzL K H w ds (kvs.map (·.2)) → Ow o 1 (.dct ks ds) (.ref a)
  | dcu {a : Addr} {ob : Obj} {xs : List (D × Addr × Value)} {ks ds : List D} {vs : List V} : H a = some (.ext fun h => h.get? a = some ob) → w a = o → ExD ob a xs → xs.map (·.1) = ks → FzL K H w ks (xs.map fun x => .ref x.2.1) → Vals vs (xs.map (·.2.2)) → FzL K H w ds vs → Ow o 1 (.dct ks ds) (.ref a)
  | lst2 {a : Addr} {vs : List V} {ds : List D} : H a = some (.lst vs) → w a = o → Ow1L K H w o ds vs → (V.ref a :: vs).Nodup → Ow o 2 (.lst ds) (.ref a)
end

section
variable {K : PySem.W.Frag} {H H' : Hp} {w w' : OM} {o o' : Own} {a : Addr} {vs : List V} {d : D} {v : V} {ds : List D} {k : Nat}
theorem TupAt.sq (h : TupAt K H w a vs) : SqT K H a vs := by
  rcases h with ⟨⟨o, h, _⟩, _⟩ | ⟨o, its, n, h1, h2, _, h3⟩
  · exact .inl (.inr ⟨o, h⟩)
  · exact .inr ⟨o, its, n, h1, h2, h3⟩
theorem TupAt.rc (h : TupAt K H w a vs) : TupRc K H a := by
  rcases h with ⟨⟨o, h, hd⟩, _⟩ | ⟨o, its, n, h1, h2, h3, _⟩
  · exact .inl ⟨o, vs, h, hd⟩
  · exact .inr ⟨o, h1, h2, h3⟩
theorem LstAt.sq (h : LstAt K H w a vs) : SqL K H a vs := by
  rcases h with ⟨h, _⟩ | h
  · exact .inl h
  · exact .inr h
theorem FzL.length : ∀ {ds : List D} {vs : List V}, FzL K H w ds vs → ds.length = vs.length
  | _, _, .nil => rfl
  | _, _, .cons _ t => by rw [List.length_cons, List.length_cons, FzL.length t]
theorem FzL.get : ∀ {ds : List D} {vs : List V} {i : Nat} {d : D}, FzL K H w ds vs → ds[i]? = some d → ∃ v, vs[i]? = some v ∧ Fz K H w d v
  | _, _, _, _, .nil, e => by simp at e
  | _, _, 0, _, .cons r _, e => by simp at e; subst e; exact ⟨_, rfl, r⟩
  | _, _, i + 1, _, .cons _ t, e => by simpa using FzL.get t (i := i) (by simpa using e)
theorem FzL.append : ∀ {ds es : List D} {vs us : List V}, FzL K H w ds vs → FzL K H w es us → FzL K H w (ds ++ es) (vs ++ us)
  | _, _, _, _, .nil, s => s
  | _, _, _, _, .cons r t, s => .cons r (FzL.append t s)
theorem FzL.take : ∀ {ds : List D} {vs : List V} (n : Nat), FzL K H w ds vs → FzL K H w (ds.take n) (vs.take n)
  | _, _, 0, _ => .nil
  | _, _, _ + 1, .nil => .nil
  | _, _, n + 1, .cons r t => .cons r (FzL.take n t)
theorem FzL.drop : ∀ {ds : List D} {vs : List V} (n : Nat), FzL K H w ds vs → FzL K H w (ds.drop n) (vs.drop n)
  | _, _, 0, r => r
  | _, _, _ + 1, .nil => .nil
  | _, _, n + 1, .cons _ t => FzL.drop n t
theorem FzL.set (r : Fz K H w d v) : ∀ {ds : List D} {vs : List V} (i : Nat), FzL K H w ds vs → FzL K H w (ds.set i d) (vs.set i v)
  | _, _, _, .nil => .nil
  | _, _, 0, .cons _ t => .cons r t
  | _, _, i + 1, .cons q t => .cons q (FzL.set r i t)
theorem FzL.eraseIdx : ∀ {ds : List D} {vs : List V} (i : Nat), FzL K H w ds vs → FzL K H w (ds.eraseIdx i) (vs.eraseIdx i)
  | _, _, _, .nil => .nil
  | _, _, 0, .cons _ t => t
  | _, _, i + 1, .cons q t => .cons q (FzL.eraseIdx i t)
theorem FzL.reverse {ds : List D} {vs : List V} (h : FzL K H w ds vs) : FzL K H w ds.reverse vs.reverse := by
  induction h using FzL.rec (motive_1 := fun _ _ _ => True) with
  | nil => exact .nil
  | cons r t _ ih => rw [List.reverse_cons, List.reverse_cons]; exact ih.append (.cons r .nil)
  | _ => trivial
theorem FzL.dropLast {ds : List D} {vs : List V} (h : FzL K H w ds vs) : FzL K H w ds.dropLast vs.dropLast := by
  rw [List.dropLast_eq_take, List.dropLast_eq_take, h.length]
  exact h.take _
theorem FzL.rep {ds : List D} {vs : List V} (h : FzL K H w ds vs) : ∀ k : Nat, FzL K H w (List.replicate k ds).flatten (List.replicate k vs).flatten
  | 0 => .nil
  | k + 1 => by
    rw [List.replicate_succ, List.replicate_succ, List.flatten_cons, List.flatten_cons]
    exact h.append (FzL.rep h k)
theorem FzL.ints : ∀ {ns : List Int} {vs : List V}, FzL K H w (ns.map D.int) vs → vs = ns.map V.int
  | [], _, .nil => rfl
  | n :: ns, _, .cons (.int _) t => by rw [FzL.ints t]; rfl
theorem FzL.bls : ∀ {ns : List Bool} {vs : List V}, FzL K H w (ns.map D.bl) vs → vs = ns.map V.bl
  | [], _, .nil => rfl
  | n :: ns, _, .cons (.bl _) t => by rw [FzL.bls t]; rfl
/-! ### what steps keep -/
/-- what is frozen at (H, w) is so at (H', w') -/
def Kp (o : Own) (H : Hp) (w : OM) (H' : Hp) (w' : OM) : Prop := ∀ a x, H a = some x → (w a = .no ∨ w a = o) → H' a = some x ∧ w' a = w a
theorem Kp.rd {u : HO} (k : Kp o H w H' w') (h : Rd H a u) (n : w a = .no) : Rd H' a u ∧ w' a = .no := by
  rcases h with h | ⟨q, h⟩
  · obtain ⟨h1, h2⟩ := k a _ h (.inl n)
    exact ⟨.inl h1, h2.trans n⟩
  · obtain ⟨h1, h2⟩ := k a _ h (.inl n)
    exact ⟨.inr ⟨q, h1⟩, h2.trans n⟩
theorem TupAt.step (k : Kp o H w H' w') (h : TupAt K H w a vs) : TupAt K H' w' a vs := by
  rcases h with ⟨⟨q, h, hd⟩, n⟩ | h
  · exact .inl ⟨⟨q, (k a _ h (.inl n)).1, hd⟩, (k a _ h (.inl n)).2.trans n⟩
  · exact .inr h
theorem LstAt.step (k : Kp o H w H' w') (h : LstAt K H w a vs) : LstAt K H' w' a vs := by
  rcases h with ⟨h, n⟩ | h
  · exact .inl (k.rd h n)
  · exact .inr h
mutual
theorem Fz.step (k : Kp o H w H' w') : ∀ {d : D} {v : V}, Fz K H w d v → Fz K H' w' d v
  | _, _, .non => .non
  | _, _, .bl b => .bl b
  | _, _, .int i => .int i
  | _, _, .str x => .str x
  | _, _, .tup h t => .tup (h.step k) (FzL.step k t)
  | _, _, .lst h n t => .lst (k _ _ h (.inl n)).1 ((k _ _ h (.inl n)).2.trans n) (FzL.step k t)
  | _, _, .scr h t => .scr (h.step k) (FzL.step k t)
  | _, _, .dct h n e t => .dct (k.rd h n).1 (k.rd h n).2 e (FzL.step k t)
  | _, _, .dcu h n x e q r t => .dcu (k _ _ h (.inl n)).1 ((k _ _ h (.inl n)).2.trans n) x e (FzL.step k q) r (FzL.step k t)
theorem FzL.step (k : Kp o H w H' w') : ∀ {ds : List D} {vs : List V}, FzL K H w ds vs → FzL K H' w' ds vs
  | _, _, .nil => .nil
  | _, _, .cons h t => .cons (Fz.step k h) (FzL.step k t)
end
theorem Ow1L.step (k : Kp o H w H' w') : ∀ {ds : List D} {vs : List V}, Ow1L K H w o ds vs → Ow1L K H' w' o ds vs
  | _, _, .nil => .nil
  | _, _, .cons h n t r => .cons (k _ _ h (.inr n)).1 ((k _ _ h (.inr n)).2.trans n) (t.step k) (Ow1L.step k r)
theorem Ow.step (k' : Kp o H w H' w') (h : Ow K H w o k d v) : Ow K H' w' o k d v := by
  cases h with
  | fz h => exact .fz (h.step k')
  | lst h n t => exact .lst (k' _ _ h (.inr n)).1 ((k' _ _ h (.inr n)).2.trans n) (t.step k')
  | dct h n e t => exact .dct (k' _ _ h (.inr n)).1 ((k' _ _ h (.inr n)).2.trans n) e (t.step k')
  | dcu h n x e q r t => exact .dcu (k' _ _ h (.inr n)).1 ((k' _ _ h (.inr n)).2.trans n) x e (q.step k') r (t.step k')
  | lst2 h n t nd => exact .lst2 (k' _ _ h (.inr n)).1 ((k' _ _ h (.inr n)).2.trans n) (t.step k') nd

/-! ### relabelling -/
theorem Kp.re (ho : o ≠ .no) (o1 : Own) (h1 : o1 ≠ o) : Kp o1 H w H (w.re o o') := fun a x e h => by
  refine ⟨e, OM.re_ne ?_⟩
  rcases h with h | h
  · rw [h]; exact ho.symm
  · rw [h]; exact h1
theorem Fz.re (ho : o ≠ .no) (h : Fz K H w d v) : Fz K H (w.re o o') d v := h.step (Kp.re ho .no ho.symm)
theorem FzL.re (ho : o ≠ .no) (h : FzL K H w ds vs) : FzL K H (w.re o o') ds vs := h.step (Kp.re ho .no ho.symm)
theorem Ow.other {o1 : Own} (ho : o ≠ .no) (h1 : o1 ≠ o) (h : Ow K H w o1 k d v) : Ow K H (w.re o o') o1 k d v := h.step (Kp.re ho o1 h1)
theorem Ow1L.re (ho : o ≠ .no) : ∀ {ds : List D} {vs : List V}, Ow1L K H w o ds vs → Ow1L K H (w.re o o') o' ds vs
  | _, _, .nil => .nil
  | _, _, .cons h n t r => .cons h (OM.re_eq n) (t.re ho) (Ow1L.re ho r)
theorem Ow.re (ho : o ≠ .no) (h : Ow K H w o k d v) : Ow K H (w.re o o') o' k d v := by
  cases h with
  | fz h => exact .fz (h.re ho)
  | lst h n t => exact .lst h (OM.re_eq n) (t.re ho)
  | dct h n e t => exact .dct h (OM.re_eq n) e (t.re ho)
  | dcu h n x e q r t => exact .dcu h (OM.re_eq n) x e (q.re ho) r (t.re ho)
  | lst2 h n t nd => exact .lst2 h (OM.re_eq n) (t.re ho) nd
theorem Ow1L.freeze (ho : o ≠ .no) : ∀ {ds : List D} {vs : List V}, Ow1L K H w o ds vs → FzL K H (w.re o .no) ds vs
  | _, _, .nil => .nil
  | _, _, .cons h n t r => .cons (.lst h (OM.re_eq n) (t.re ho)) (Ow1L.freeze ho r)
theorem Ow.freeze (ho : o ≠ .no) (h : Ow K H w o k d v) : Fz K H (w.re o .no) d v := by
  cases h with
  | fz h => exact h.re ho
  | lst h n t => exact .lst h (OM.re_eq n) (t.re ho)
  | dct h n e t => exact .dct (.inl h) (OM.re_eq n) e (t.re ho)
  | dcu h n x e q r t => exact .dcu h (OM.re_eq n) x e (q.re ho) r (t.re ho)
  | lst2 h n t nd => exact .lst h (OM.re_eq n) (t.freeze ho)
end

/-! ### environments -/
/-- a slot: its value, how deep it may be written -/
structure Cell where
  d : D
  k : Nat := 0
  deriving DecidableEq, Inhabited
abbrev Env := List (Option Cell)
def Env.get : Env → Nat → Option Cell
  | [], _ => none
  | c :: _, 0 => c
  | _ :: r, n + 1 => Env.get r n
def Env.set : Env → Nat → Option Cell → Env
  | [], _, _ => []
  | _ :: r, 0, c => c :: r
  | x :: r, n + 1, c => x :: Env.set r n c
theorem Env.get_set_same : ∀ {ρ : Env} {i : Nat} {c x : Option Cell}, i < ρ.length → (Env.set ρ i c).get i = c
  | [], _, _, _, h => by simp at h
  | _ :: _, 0, _, _, _ => rfl
  | _ :: r, i + 1, c, x, h => Env.get_set_same (ρ := r) (x := x) (by simpa using h)
theorem Env.get_set_ne : ∀ {ρ : Env} {i j : Nat} {c : Option Cell}, j ≠ i → (Env.set ρ i c).get j = ρ.get j
  | [], _, _, _, _ => rfl
  | _ :: _, 0, 0, _, h => absurd rfl h
  | _ :: _, 0, _ + 1, _, _ => rfl
  | _ :: _, _ + 1, 0, _, _ => rfl
  | _ :: r, i + 1, j + 1, _, h => Env.get_set_ne (ρ := r) (fun e => h (by rw [e]))
theorem Env.length_set : ∀ {ρ : Env} {i : Nat} {c : Option Cell}, (Env.set ρ i c).length = ρ.length
  | [], _, _ => rfl
  | _ :: _, 0, _ => rfl
  | _ :: r, i + 1, c => by show (Env.set r i c).length + 1 = _; rw [Env.length_set]; rfl
theorem Env.get_lt : ∀ {ρ : Env} {i : Nat} {c : Cell}, ρ.get i = some c → i < ρ.length
  | [], _, _, h => by cases h
  | _ :: _, 0, _, _ => by simp
  | _ :: r, i + 1, _, h => by have := Env.get_lt (ρ := r) h; simp; omega
theorem Env.get_set {ρ : Env} {i j : Nat} {c : Option Cell} {x : Cell} (h : (Env.set ρ i c).get j = some x) : (j = i ∧ c = some x) ∨ (j ≠ i ∧ ρ.get j = some x) := by
  by_cases e : j = i
  · subst e
    have hl : j < ρ.length := by have := Env.get_lt h; rwa [Env.length_set] at this
    rw [Env.get_set_same (x := none) hl] at h
    exact .inl ⟨rfl, h⟩
  · rw [Env.get_set_ne e] at h
    exact .inr ⟨e, h⟩

/-! ### results -/
inductive R (α : Type) where
  | ok (a : α) | exc (c : Str) (ds : List D) | bad
def R.bind {α β : Type} : R α → (α → R β) → R β
  | .ok a, f => f a
  | .exc c ds, _ => .exc c ds
  | .bad, _ => .bad
instance : Monad R where
  pure := R.ok
  bind := R.bind
@[simp] theorem R.ok_bind {α β : Type} (a : α) (f : α → R β) : (R.ok a >>= f) = f a := rfl
@[simp] theorem R.bad_bind {α β : Type} (f : α → R β) : ((R.bad : R α) >>= f) = R.bad := rfl
@[simp] theorem R.exc_bind {α β : Type} (c : Str) (ds : List D) (f : α → R β) : ((R.exc c ds : R α) >>= f) = R.exc c ds := rfl
@[simp] theorem R.pure_eq {α : Type} (a : α) : (pure a : R α) = .ok a := rfl
theorem R.of_bind {α β : Type} {r : R α} {f : α → R β} {b : β} (h : (r >>= f) = .ok b) : ∃ a, r = .ok a ∧ f a = .ok b := by
  cases r with
  | ok a => exact ⟨a, rfl, h⟩
  | exc c ds => cases h
  | bad => cases h

/-! ### states -/
section
variable (K : PySem.W.Frag) (H : Hp) (w : OM)
structure Ok (σ : L2.St) (ρ : Env) : Prop where
  len : σ.length = ρ.length
  slot : ∀ i c, ρ.get i = some c → ∃ v, σ[i]? = some (some v) ∧ Ow K H w (.sl i) c.k c.d v
  live : ∀ a, w a ≠ .no → H a ≠ none
end
def Fixed (n : Nat) (o : Own) : Prop := o = .no ∨ o = .out ∨ ∃ j, j < n ∧ o = .tm j
theorem Fixed.mono {n m : Nat} {o : Own} (h : n ≤ m) (f : Fixed n o) : Fixed m o := by
  rcases f with f | f | ⟨j, hj, f⟩
  · exact .inl f
  · exact .inr (.inl f)
  · exact .inr (.inr ⟨j, by omega, f⟩)
theorem not_fixed_sl {n i : Nat} : ¬ Fixed n (.sl i) := by
  rintro (f | f | ⟨j, _, f⟩) <;> cases f
theorem not_fixed_tm {n : Nat} : ¬ Fixed n (.tm n) := by
  rintro (f | f | ⟨j, h, f⟩)
  · cases f
  · cases f
  · cases f; omega
/-- a step that may write the slots, not what is pending below n -/
def Step (n : Nat) (H : Hp) (w : OM) (H' : Hp) (w' : OM) : Prop := ∀ a x, H a = some x → Fixed n (w a) → H' a = some x ∧ w' a = w a
section
variable {K : PySem.W.Frag} {H H' H1 H2 : Hp} {w w' w1 w2 : OM} {n m : Nat} {σ : L2.St} {ρ : Env} {o o' : Own} {a : Addr} {k : Nat} {d : D} {v : V}
theorem Step.refl : Step n H w H w := fun _ _ h _ => ⟨h, rfl⟩
theorem Step.trans (a : Step n H w H1 w1) (b : Step n H1 w1 H2 w2) : Step n H w H2 w2 := fun p x h f => by
  obtain ⟨h1, e1⟩ := a p x h f
  obtain ⟨h2, e2⟩ := b p x h1 (by rw [e1]; exact f)
  exact ⟨h2, e2.trans e1⟩
theorem Step.mono (h : n ≤ m) (a : Step m H w H' w') : Step n H w H' w' := fun p x e f => a p x e (f.mono h)
theorem Step.kp (a : Step n H w H' w') (f : Fixed n o) : Kp o H w H' w' := fun p x e h => a p x e (by
  rcases h with h | h
  · rw [h]; exact .inl rfl
  · rw [h]; exact f)
theorem Step.fz (a : Step n H w H' w') (h : Fz K H w d v) : Fz K H' w' d v := h.step (a.kp (o := .no) (.inl rfl))
theorem Step.tm (a : Step n H w H' w') (j : Nat) (hj : j < n) (h : Ow K H w (.tm j) k d v) : Ow K H' w' (.tm j) k d v := h.step (a.kp (.inr (.inr ⟨j, hj, rfl⟩)))
/-- a label is changed that n does not fix -/
theorem Step.re (ho : ¬ Fixed n o) : Step n H w H (w.re o o') := fun a x e f => ⟨e, OM.re_ne fun z => ho (by rw [← z]; exact f)⟩
/-- a fresh object -/
theorem Step.new {p : Addr} {u : HO} (hp : H p = none) : Step n H w (upd H p u) (w.put p o) := fun a x e f => by
  have h : a ≠ p := ne_of_none e hp
  exact ⟨by rw [upd_ne h]; exact e, OM.put_ne h⟩
/-- an object written whose owner n does not fix -/
theorem Step.write {p : Addr} {u : HO} (ho : ¬ Fixed n (w p)) : Step n H w (upd H p u) w := fun a x e f => by
  have h : a ≠ p := fun z => ho (by rw [← z]; exact f)
  exact ⟨by rw [upd_ne h]; exact e, rfl⟩
theorem Kp.new {p : Addr} {u : HO} (hp : H p = none) (o1 : Own) : Kp o1 H w (upd H p u) (w.put p o) := fun a x e f => by
  have h : a ≠ p := ne_of_none e hp
  exact ⟨by rw [upd_ne h]; exact e, OM.put_ne h⟩
theorem Kp.write {p : Addr} {u : HO} {o1 : Own} (h0 : w p ≠ .no) (h1 : w p ≠ o1) : Kp o1 H w (upd H p u) w := fun a x e f => by
  have h : a ≠ p := fun z => by
    subst z
    rcases f with f | f
    · exact h0 f
    · exact h1 f
  exact ⟨by rw [upd_ne h]; exact e, rfl⟩
theorem Ok.new {p : Addr} {u : HO} (ok : Ok K H w σ ρ) (hp : H p = none) (o : Own) : Ok K (upd H p u) (w.put p o) σ ρ := by
  refine ⟨ok.len, fun i c e => ?_, fun a h => ?_⟩
  · obtain ⟨v, e1, h⟩ := ok.slot i c e
    exact ⟨v, e1, h.step (Kp.new hp _)⟩
  · by_cases z : a = p
    · subst z; rw [upd_same]; exact fun q => nomatch q
    · rw [upd_ne z]; rw [OM.put_ne z] at h; exact ok.live a h
/-- what is of a temp becomes frozen, or another temp's, the slots stay -/
theorem Ok.re (ok : Ok K H w σ ρ) (ho : o ≠ .no) (hs : ∀ i, o ≠ .sl i) : Ok K H (w.re o o') σ ρ := by
  refine ⟨ok.len, fun i c e => ?_, fun a h => ?_⟩
  · obtain ⟨v, e1, h⟩ := ok.slot i c e
    exact ⟨v, e1, h.other ho (hs i).symm⟩
  · by_cases z : w a = o
    · exact ok.live a (by rw [z]; exact ho)
    · rw [OM.re_ne z] at h; exact ok.live a h
/-- a slot is frozen -/
theorem Ok.freeze {i : Nat} {c : Cell} (ok : Ok K H w σ ρ) (e : ρ.get i = some c) : Ok K H (w.re (.sl i) .no) σ (ρ.set i (some ⟨c.d, 0⟩)) := by
  refine ⟨by rw [Env.length_set]; exact ok.len, fun j x q => ?_, fun a h => ?_⟩
  · rcases Env.get_set q with ⟨ej, qx⟩ | ⟨hj, q⟩
    · subst ej
      cases qx
      obtain ⟨v, e1, h⟩ := ok.slot j c e
      exact ⟨v, e1, .fz (h.freeze (by intro z; cases z))⟩
    · obtain ⟨v, e1, h⟩ := ok.slot j x q
      exact ⟨v, e1, h.other (by intro z; cases z) (by intro z; cases z; exact hj rfl)⟩
  · by_cases z : w a = .sl i
    · exact ok.live a (by rw [z]; intro q; cases q)
    · rw [OM.re_ne z] at h; exact ok.live a h
end
end Z

/-! Z: expressions. -/
namespace Z
open PySem PySem.Spec PyProof.Rows L2

inductive Src where
  | v (c : Cell) | s (i : Nat)
def Src.cell (ρ : Env) : Src → Option Cell
  | .v c => some c
  | .s i => ρ.get i
abbrev AE := Env → R (Src × Env)
def cells (ρ : Env) : List Src → Option (List Cell)
  | [] => some []
  | s :: ss => match s.cell ρ, cells ρ ss with
    | some c, some cs => some (c :: cs)
    | _, _ => none
def evs : List AE → Env → R (List Src × Env)
  | [], ρ => .ok ([], ρ)
  | m :: ms, ρ => do
    let (s, ρ1) ← m ρ
    let (ss, ρ2) ← evs ms ρ1
    R.ok (s :: ss, ρ2)
def SrcAt (K : PySem.W.Frag) (H : Hp) (w : OM) (σ : L2.St) (n : Nat) : Src → V → Prop
  | .v c, v => Ow K H w (.tm n) c.k c.d v
  | .s i, v => σ[i]? = some (some v)
def SrcsAt (K : PySem.W.Frag) (H : Hp) (w : OM) (σ : L2.St) : Nat → List Src → List V → Prop
  | _, [], [] => True
  | n, s :: ss, v :: vs => SrcAt K H w σ n s v ∧ SrcsAt K H w σ (n + 1) ss vs
  | _, _, _ => False
/-- values by cells, whoever owns them -/
inductive OwA (K : PySem.W.Frag) (H : Hp) (w : OM) : List Cell → List V → Prop
  | nil : OwA K H w [] []
  | cons {c : Cell} {v : V} {cs : List Cell} {vs : List V} {o : Own} : o ≠ .no → Ow K H w o c.k c.d v → OwA K H w cs vs → OwA K H w (c :: cs) (v :: vs)
section
variable {K : PySem.W.Frag} {H H' : Hp} {w w' : OM} {σ : L2.St} {ρ : Env} {n m : Nat}
theorem SrcAt.step {s : Src} {v : V} (h : SrcAt K H w σ n s v) (st : Step m H w H' w') (hm : n < m) : SrcAt K H' w' σ n s v := by
  cases s with
  | v c => exact st.tm n hm h
  | s i => exact h
theorem SrcAt.cell {s : Src} {v : V} {c : Cell} (ok : Ok K H w σ ρ) (h : SrcAt K H w σ n s v) (e : s.cell ρ = some c) : ∃ o, o ≠ .no ∧ Ow K H w o c.k c.d v := by
  cases s with
  | v c' =>
    cases (show some c' = some c from e)
    exact ⟨.tm n, (by intro z; cases z), h⟩
  | s i =>
    obtain ⟨u, e1, q⟩ := ok.slot i c e
    have h : σ[i]? = some (some v) := h
    rw [h] at e1
    cases e1
    exact ⟨.sl i, (by intro z; cases z), q⟩
theorem SrcsAt.cells : ∀ {ss : List Src} {vs : List V} {cs : List Cell} {n : Nat}, Ok K H w σ ρ → SrcsAt K H w σ n ss vs → Z.cells ρ ss = some cs → OwA K H w cs vs
  | [], [], cs, n, ok, h, e => by cases e; exact .nil
  | [], _ :: _, _, _, _, h, _ => h.elim
  | _ :: _, [], _, _, _, h, _ => h.elim
  | s :: ss, v :: vs, cs, n, ok, ⟨h, t⟩, e => by
    unfold Z.cells at e
    cases e1 : s.cell ρ with
    | none => rw [e1] at e; cases e
    | some c =>
      cases e2 : Z.cells ρ ss with
      | none => rw [e1, e2] at e; cases e
      | some cs' =>
        rw [e1, e2] at e
        cases e
        obtain ⟨o, ho, q⟩ := h.cell ok e1
        exact .cons ho q (SrcsAt.cells ok t e2)
end

/-! ### what holds of an expression -/
structure SA (X : Cx) (e : Expr) (m : AE) : Prop where
  ex : ∃ t, PE X e t ∧ ∀ (n : Nat) (σ : L2.St) (H : Hp) (w : OM) (ρ : Env) (s : Src) (ρ' : Env) (Q : VK), Ok X.K H w σ ρ → m ρ = .ok (s, ρ') →
    (∀ v H' w', Ok X.K H' w' σ ρ' → Step n H w H' w' → SrcAt X.K H' w' σ n s v → Q v H') → t σ H Q
structure SAs (X : Cx) (es : List Expr) (ms : List AE) : Prop where
  ex : ∃ t, PA X es t ∧ ∀ (n : Nat) (σ : L2.St) (H : Hp) (w : OM) (ρ : Env) (ss : List Src) (ρ' : Env) (Q : List V → Hp → Prop), Ok X.K H w σ ρ → evs ms ρ = .ok (ss, ρ') →
    (∀ vs H' w', Ok X.K H' w' σ ρ' → Step n H w H' w' → SrcsAt X.K H' w' σ n ss vs → Q vs H') → t σ H Q
theorem PE.or {X : Cx} {e : Expr} {t u : TE} (h : PE X e t) (h' : PE X e u) : PE X e (fun σ H Q => t σ H Q ∨ u σ H Q) := ⟨fun pins s σ H Q I q => by
  rcases q with q | q
  · exact h.run pins s σ H Q I q
  · exact h'.run pins s σ H Q I q⟩
section
variable {X : Cx} {e a b : Expr} {es : List Expr} {m ma mb : AE} {ms : List AE} {pos : Pos}
theorem sas_nil : SAs X [] [] := ⟨_, pa_nil, fun n σ H w ρ ss ρ' Q ok h k => by
  cases h
  exact k [] H w ok Step.refl trivial⟩
theorem sas_cons (ha : SA X e m) (hr : SAs X es ms) (hs : starEach (e :: es) X.env = (false, eval e X.env) :: starEach es X.env := by rfl) : SAs X (e :: es) (m :: ms) := by
  obtain ⟨t, p, h⟩ := ha.ex
  obtain ⟨u, q, g⟩ := hr.ex
  refine ⟨_, pa_cons p q hs, fun n σ H w ρ ss ρ' Q ok hm k => ?_⟩
  obtain ⟨⟨s, ρ1⟩, e1, hm⟩ := R.of_bind hm
  obtain ⟨⟨ss2, ρ2⟩, e2, hm⟩ := R.of_bind hm
  cases hm
  refine h n σ H w ρ s ρ1 _ ok e1 fun v H1 w1 ok1 st1 s1 => ?_
  refine g (n + 1) σ H1 w1 ρ1 ss2 _ _ ok1 e2 fun vs H2 w2 ok2 st2 s2 => ?_
  exact k _ H2 w2 ok2 (st1.trans (st2.mono (Nat.le_succ n))) ⟨s1.step st2 (Nat.lt_succ_self n), s2⟩

/-! ### names, constants -/
def aVar (i : Nat) : AE := fun ρ => match ρ.get i with
  | some _ => .ok (.s i, ρ)
  | none => .bad
theorem sa_var {i : Nat} {x : Str} {pos : Pos} (hN : X.N[i]? = some x := by rfl) (hv : Vis X.env.scope x := by first | exact Or.inl rfl | exact Or.inr (Or.inl rfl) | exact Or.inr (Or.inr rfl))
    (hd : (x == ("__debug__" : Str)) = false := by decide) (hcd : (x == ("__classdict__" : Str)) = false := by decide) : SA X (.Name x pos) (aVar i) := by
  refine ⟨_, pe_var hN hv hd hcd, fun n σ H w ρ s ρ' Q ok hm k => ?_⟩
  unfold aVar at hm
  cases e : ρ.get i with
  | none => rw [e] at hm; cases hm
  | some c =>
    rw [e] at hm
    cases hm
    obtain ⟨v, h1, _⟩ := ok.slot i c e
    exact ⟨v, h1, k v H w ok Step.refl h1⟩
def Cell.fz (d : D) : Cell := ⟨d, 0⟩
def aC (d : D) : AE := fun ρ => .ok (.v (Cell.fz d), ρ)
theorem sa_const {v : V} {d : D} (p : PE X e (tC v)) (h : ∀ H w, Fz X.K H w d v) : SA X e (aC d) := ⟨_, p, fun n σ H w ρ s ρ' Q ok hm k => by
  cases hm
  exact k v H w ok Step.refl (.fz (h H w))⟩
theorem sa_int {i : Int} {j : Nat} {pos : Pos} : SA X (.Constant (.int i) j pos) (aC (.int i)) := sa_const pe_int fun _ _ => .int i
theorem sa_bl {i : Bool} {j : Nat} {pos : Pos} : SA X (.Constant (.bool i) j pos) (aC (.bl i)) := sa_const pe_bl fun _ _ => .bl i
theorem sa_gint {x : Str} {i : Int} {pos : Pos} (hm : ∃ t, X.mg x = some (.int i t)) (hg : Gl X x := by rfl) (hd : (x == ("__debug__" : Str)) = false := by decide) : SA X (.Name x pos) (aC (.int i)) := by
  obtain ⟨t, hm⟩ := hm
  exact sa_const (v := .int i) (pe_glob hg hm ⟨t, rfl⟩ hd) fun _ _ => .int i
/-! ### operations on values -/
/-- f tells what the operation by values r makes -/
def CallS (X : Cx) (r : List V → Hp → VK → Prop) (f : List Cell → R Cell) : Prop :=
  ∀ (n : Nat) (H : Hp) (w : OM) (σ : L2.St) (ρ : Env) (cs : List Cell) (vs : List V) (c : Cell) (Q : VK), Ok X.K H w σ ρ → OwA X.K H w cs vs → f cs = .ok c →
    (∀ v H' w', Ok X.K H' w' σ ρ → Step n H w H' w' → Ow X.K H' w' (.tm n) c.k c.d v → Q v H') → r vs H Q
def r2L (r : R2) : List V → Hp → VK → Prop := fun vs H Q => match vs with
  | [x, y] => r x y H Q
  | _ => False
def r1L (r : V → Hp → VK → Prop) : List V → Hp → VK → Prop := fun vs H Q => match vs with
  | [x] => r x H Q
  | _ => False
def mPrim (f : List Cell → R Cell) (ms : List AE) : AE := fun ρ => do
  let (ss, ρ1) ← evs ms ρ
  match cells ρ1 ss with
  | some cs => do
    let c ← f cs
    R.ok (.v c, ρ1)
  | none => R.bad
theorem mPrim_ok {f : List Cell → R Cell} {ρ ρ' : Env} {s : Src} (h : mPrim f ms ρ = .ok (s, ρ')) : ∃ ss cs c, evs ms ρ = .ok (ss, ρ') ∧ cells ρ' ss = some cs ∧ f cs = .ok c ∧ s = .v c := by
  obtain ⟨⟨ss, ρ1⟩, e1, h⟩ := R.of_bind h
  dsimp only at h
  cases e2 : cells ρ1 ss with
  | none => rw [e2] at h; cases h
  | some cs =>
    rw [e2] at h
    obtain ⟨c, e3, h⟩ := R.of_bind h
    cases h
    exact ⟨ss, cs, c, e1, e2, e3, rfl⟩
/-- by an argument list -/
theorem sa_prim {f : List Cell → R Cell} {r : List V → Hp → VK → Prop} (hs : CallS X r f) (ha : SAs X es ms) (hp : ∀ t, PA X es t → PE X e (fun σ H Q => t σ H fun vs H1 => r vs H1 Q)) : SA X e (mPrim f ms) := by
  obtain ⟨t, p, h⟩ := ha.ex
  refine ⟨_, hp t p, fun n σ H w ρ s ρ' Q ok hm k => ?_⟩
  obtain ⟨ss, cs, c, e1, e2, e3, rfl⟩ := mPrim_ok hm
  refine h n σ H w ρ ss ρ' _ ok e1 fun vs H1 w1 ok1 st1 s1 => ?_
  exact hs n H1 w1 σ ρ' cs vs c Q ok1 (s1.cells ok1 e2) e3 fun v H2 w2 ok2 st2 q => k v H2 w2 ok2 (st1.trans st2) q
/-- by two expressions in a row -/
theorem sa_prim2 {f : List Cell → R Cell} {r : R2} (hs : CallS X (r2L r) f) (ha : SA X a ma) (hb : SA X b mb) (hp : ∀ t u, PE X a t → PE X b u → PE X e (tOp r t u)) : SA X e (mPrim f [ma, mb]) := by
  obtain ⟨t, p, h⟩ := ha.ex
  obtain ⟨u, q, g⟩ := hb.ex
  refine ⟨_, hp t u p q, fun n σ H w ρ s ρ' Q ok hm k => ?_⟩
  obtain ⟨ss, cs, c, e1, e2, e3, rfl⟩ := mPrim_ok hm
  obtain ⟨⟨s1, ρ1⟩, f1, e1⟩ := R.of_bind e1
  obtain ⟨⟨ss2, ρ2⟩, f2, e1⟩ := R.of_bind e1
  cases e1
  obtain ⟨⟨s2, ρ3⟩, f3, f2⟩ := R.of_bind f2
  cases f2
  refine h n σ H w ρ s1 ρ1 _ ok f1 fun v H1 w1 ok1 st1 q1 => ?_
  refine g (n + 1) σ H1 w1 ρ1 s2 ρ' _ ok1 f3 fun v2 H2 w2 ok2 st2 q2 => ?_
  refine hs n H2 w2 σ ρ' cs [v, v2] c Q ok2 (SrcsAt.cells (n := n) (ss := [s1, s2]) (vs := [v, v2]) ok2 ⟨q1.step st2 (Nat.lt_succ_self n), q2, trivial⟩ e2) e3 fun v3 H3 w3 ok3 st3 q3 => ?_
  exact k v3 H3 w3 ok3 ((st1.trans (st2.mono (Nat.le_succ n))).trans st3) q3
theorem sa_prim1 {f : List Cell → R Cell} {r : V → Hp → VK → Prop} (hs : CallS X (r1L r) f) (ha : SA X a ma) (hp : ∀ t, PE X a t → PE X e (fun σ H Q => t σ H fun x H1 => r x H1 Q)) : SA X e (mPrim f [ma]) := by
  obtain ⟨t, p, h⟩ := ha.ex
  refine ⟨_, hp t p, fun n σ H w ρ s ρ' Q ok hm k => ?_⟩
  obtain ⟨ss, cs, c, e1, e2, e3, rfl⟩ := mPrim_ok hm
  obtain ⟨⟨s1, ρ1⟩, f1, e1⟩ := R.of_bind e1
  cases e1
  refine h n σ H w ρ s1 ρ' _ ok f1 fun v H1 w1 ok1 st1 q1 => ?_
  refine hs n H1 w1 σ ρ' cs [v] c Q ok1 (SrcsAt.cells (n := n) (ss := [s1]) (vs := [v]) ok1 ⟨q1, trivial⟩ e2) e3 fun v3 H3 w3 ok3 st3 q3 => ?_
  exact k v3 H3 w3 ok3 (st1.trans st3) q3
theorem sa_bin {op : Operator} {f : List Cell → R Cell} {r : R2} (ho : OpR X (binaryOp op) r) (hs : CallS X (r2L r) f) (ha : SA X a ma) (hb : SA X b mb) : SA X (.BinOp a op b pos) (mPrim f [ma, mb]) :=
  sa_prim2 hs ha hb fun _ _ p q => pe_op ho p q
theorem sa_cmp {op : CmpOp} {f : List Cell → R Cell} {r : R2} (ho : OpR X (compareOp op) r) (hs : CallS X (r2L r) f) (hm : behindInMarks op b = false) (ha : SA X a ma) (hb : SA X b mb) : SA X (.Compare a [op] [b] pos) (mPrim f [ma, mb]) :=
  sa_prim2 hs ha hb fun _ _ p q => pe_cmpR ho p q hm
theorem sa_un {op : UnaryOp} {f : List Cell → R Cell} {r : V → Hp → VK → Prop} (ho : UnR X (unaryOp op) r) (hs : CallS X (r1L r) f) (ha : SA X a ma) : SA X (.UnaryOp op a pos) (mPrim f [ma]) :=
  sa_prim1 hs ha fun _ p => pe_un ho p
end

def orF (f g : List Cell → R Cell) : List Cell → R Cell := fun cs => match f cs with
  | .ok c => .ok c
  | _ => g cs
section
variable {X : Cx}
theorem CallS.or {r r' : List V → Hp → VK → Prop} {f g : List Cell → R Cell} (h : CallS X r f) (h' : CallS X r' g) : CallS X (fun vs H Q => r vs H Q ∨ r' vs H Q) (orF f g) := by
  intro n H w σ ρ cs vs c Q ok ow e k
  unfold orF at e
  cases e1 : f cs with
  | ok c' =>
    rw [e1] at e
    cases e
    exact .inl (h n H w σ ρ cs vs _ Q ok ow e1 k)
  | exc _ _ => rw [e1] at e; exact .inr (h' n H w σ ρ cs vs c Q ok ow e k)
  | bad => rw [e1] at e; exact .inr (h' n H w σ ρ cs vs c Q ok ow e k)
theorem CallS.of {r r' : List V → Hp → VK → Prop} {f : List Cell → R Cell} (h : CallS X r f) (i : ∀ vs H Q, r vs H Q → r' vs H Q) : CallS X r' f := by
  intro n H w σ ρ cs vs c Q ok ow e k
  exact i _ _ _ (h n H w σ ρ cs vs c Q ok ow e k)
/-- the value at a cell whose datum is a scalar -/
theorem ow_int {K : PySem.W.Frag} {H : Hp} {w : OM} {o : Own} {k : Nat} {i : Int} {v : V} (h : Ow K H w o k (.int i) v) : v = .int i := by
  cases h with
  | fz h => cases h; rfl
theorem ow_bl {K : PySem.W.Frag} {H : Hp} {w : OM} {o : Own} {k : Nat} {i : Bool} {v : V} (h : Ow K H w o k (.bl i) v) : v = .bl i := by
  cases h with
  | fz h => cases h; rfl
theorem ow_str {K : PySem.W.Frag} {H : Hp} {w : OM} {o : Own} {k : Nat} {i : Str} {v : V} (h : Ow K H w o k (.str i) v) : v = .str i := by
  cases h with
  | fz h => cases h; rfl
theorem ow_non {K : PySem.W.Frag} {H : Hp} {w : OM} {o : Own} {k : Nat} {v : V} (h : Ow K H w o k .non v) : v = .non := by
  cases h with
  | fz h => cases h; rfl
theorem ow_tup {K : PySem.W.Frag} {H : Hp} {w : OM} {o : Own} {k : Nat} {ds : List D} {v : V} (h : Ow K H w o k (.tup ds) v) : ∃ a vs, v = .ref a ∧ TupAt K H w a vs ∧ FzL K H w ds vs := by
  cases h with
  | fz h => cases h with
    | tup h t => exact ⟨_, _, rfl, h, t⟩

/-- a read of a datum, whoever owns it -/
theorem Ow1L.sqs {K : PySem.W.Frag} {H : Hp} {w : OM} {o : Own} : ∀ {ds : List D} {vs : List V}, Ow1L K H w o ds vs → ds.length = vs.length
  | _, _, .nil => rfl
  | _, _, .cons _ _ _ r => by rw [List.length_cons, List.length_cons, r.sqs]
theorem ow_lst {K : PySem.W.Frag} {H : Hp} {w : OM} {o : Own} {k : Nat} {ds : List D} {v : V} (h : Ow K H w o k (.lst ds) v) : ∃ a vs, v = .ref a ∧ H a = some (.lst vs) ∧ ds.length = vs.length ∧ (k ≤ 1 → FzL K H w ds vs) := by
  cases h with
  | fz h => cases h with
    | lst h n t => exact ⟨_, _, rfl, h, t.length, fun _ => t⟩
  | lst h n t => exact ⟨_, _, rfl, h, t.length, fun _ => t⟩
  | lst2 h n t nd => exact ⟨_, _, rfl, h, t.sqs, fun z => absurd z (by decide)⟩
theorem ow_scr {K : PySem.W.Frag} {H : Hp} {w : OM} {o : Own} {k : Nat} {ds : List D} {v : V} (h : Ow K H w o k (.scr ds) v) : ∃ a vs, v = .ref a ∧ SqL K H a vs ∧ FzL K H w ds vs := by
  cases h with
  | fz h => cases h with
    | scr h t => exact ⟨_, _, rfl, h.sq, t⟩

def fI2 (g : Int → Int → R D) : List Cell → R Cell
  | [⟨.int i, _⟩, ⟨.int j, _⟩] => do
    let d ← g i j
    R.ok (Cell.fz d)
  | _ => .bad
def isSc : D → V → Bool
  | .int i, .int j => decide (i = j)
  | .bl i, .bl j => decide (i = j)
  | .str i, .str j => decide (i = j)
  | .non, .non => true
  | _, _ => false
theorem isSc.fz {d : D} {v : V} (h : isSc d v = true) {K : PySem.W.Frag} {H : Hp} {w : OM} : Fz K H w d v := by
  unfold isSc at h
  split at h
  · cases of_decide_eq_true h; exact .int _
  · cases of_decide_eq_true h; exact .bl _
  · cases of_decide_eq_true h; exact .str _
  · exact .non
  · cases h
theorem s_I2 {C : Int → Int → Prop} {gv : Int → Int → V} {g : Int → Int → R D} (h : ∀ i j d, g i j = .ok d → C i j ∧ isSc d (gv i j) = true) : CallS X (r2L (rI C gv)) (fI2 g) := by
  intro n H w σ ρ cs vs c Q ok ow e k
  unfold fI2 at e
  split at e
  · obtain ⟨d, e1, e⟩ := R.of_bind e
    cases e
    cases ow with
    | cons n1 h1 t =>
      cases t with
      | cons n2 h2 t =>
        cases t
        cases ow_int h1
        cases ow_int h2
        obtain ⟨hc, hd⟩ := h _ _ _ e1
        exact ⟨_, _, rfl, rfl, hc, k _ H w ok Step.refl (.fz (isSc.fz hd))⟩
  · cases e
theorem s_I20 {gv : Int → Int → V} {g : Int → Int → D} (h : ∀ i j, isSc (g i j) (gv i j) = true) : CallS X (r2L (rI0 gv)) (fI2 fun i j => .ok (g i j)) :=
  (s_I2 (C := fun _ _ => True) (gv := gv) (g := fun i j => .ok (g i j)) fun i j d e => by cases e; exact ⟨trivial, h i j⟩).of fun vs H Q q => by
    match vs, q with
    | [x, y], ⟨i, j, e1, e2, _, q⟩ => exact ⟨i, j, e1, e2, q⟩
end
end Z

/-! Z: the operations. -/
namespace Z
open PySem PySem.Spec PyProof.Rows L2

/-! ### data as the library tells it -/
mutual
def D.py : D → PyData
  | .non => .none
  | .bl b => .bool b
  | .int i => .int i
  | .str x => .str x
  | .tup l => .tuple (D.pyL l)
  | .lst l => .list (D.pyL l)
  | .scr l => .list (D.pyL l)
  | .dct _ _ => .dict []
def D.pyL : List D → List PyData
  | [] => []
  | d :: r => d.py :: D.pyL r
end
/-- may be compared: no dict within, at most n deep -/
def D.okd : Nat → D → Bool
  | _, .non => true
  | _, .bl _ => true
  | _, .int _ => true
  | _, .str x => strOk x
  | 0, _ => false
  | n + 1, .tup l => l.all (D.okd n)
  | n + 1, .lst l => l.all (D.okd n)
  | n + 1, .scr l => l.all (D.okd n)
  | _ + 1, .dct _ _ => false
where strOk (x : Str) : Bool := x.cps.all (· < 0x110000)
def D.eqv (d e : D) : Bool := PyData.eqv d.py e.py
theorem canLayAll0_of : ∀ {l : List D}, (∀ d ∈ l, d.py.canLay0 = true) → PyData.canLayAll0 (D.pyL l) = true
  | [], _ => by simp [D.pyL, PyData.canLayAll0]
  | d :: r, h => by
    simp only [D.pyL, PyData.canLayAll0, Bool.and_eq_true]
    exact ⟨h d (by simp), canLayAll0_of fun e he => h e (by simp [he])⟩
theorem depthAll_of {n : Nat} : ∀ {l : List D}, (∀ d ∈ l, d.py.depth ≤ n) → PyData.depthAll (D.pyL l) ≤ n
  | [], _ => by simp [D.pyL, PyData.depthAll]
  | d :: r, h => by
    simp only [D.pyL, PyData.depthAll]
    have h1 := h d (by simp)
    have h2 := depthAll_of (n := n) (l := r) fun e he => h e (by simp [he])
    omega
theorem D.okd_py : ∀ {n : Nat} {d : D}, d.okd n = true → d.py.canLay0 = true ∧ d.py.depth ≤ n
  | n, .non, _ => by cases n <;> simp [D.py, PyData.canLay0, PyData.depth]
  | n, .bl _, _ => by cases n <;> simp [D.py, PyData.canLay0, PyData.depth]
  | n, .int _, _ => by cases n <;> simp [D.py, PyData.canLay0, PyData.depth]
  | n, .str x, h => by
    have h' : D.okd.strOk x = true := by cases n <;> exact h
    cases n <;> simp [D.py, PyData.canLay0, PyData.depth] <;> exact h'
  | 0, .tup _, h => by simp [D.okd] at h
  | 0, .lst _, h => by simp [D.okd] at h
  | 0, .scr _, h => by simp [D.okd] at h
  | 0, .dct _ _, h => by simp [D.okd] at h
  | n + 1, .dct _ _, h => by simp [D.okd] at h
  | n + 1, .tup l, h => by
    have h' : ∀ d ∈ l, d.okd n = true := by simpa [D.okd] using h
    have a := canLayAll0_of (l := l) fun d hd => (D.okd_py (h' d hd)).1
    have b := depthAll_of (n := n) (l := l) fun d hd => (D.okd_py (h' d hd)).2
    simp only [D.py, PyData.canLay0, PyData.depth]
    exact ⟨a, by omega⟩
  | n + 1, .lst l, h => by
    have h' : ∀ d ∈ l, d.okd n = true := by simpa [D.okd] using h
    have a := canLayAll0_of (l := l) fun d hd => (D.okd_py (h' d hd)).1
    have b := depthAll_of (n := n) (l := l) fun d hd => (D.okd_py (h' d hd)).2
    simp only [D.py, PyData.canLay0, PyData.depth]
    exact ⟨a, by omega⟩
  | n + 1, .scr l, h => by
    have h' : ∀ d ∈ l, d.okd n = true := by simpa [D.okd] using h
    have a := canLayAll0_of (l := l) fun d hd => (D.okd_py (h' d hd)).1
    have b := depthAll_of (n := n) (l := l) fun d hd => (D.okd_py (h' d hd)).2
    simp only [D.py, PyData.canLay0, PyData.depth]
    exact ⟨a, by omega⟩
theorem D.okd_shaped {d : D} (h : d.okd 60 = true) : SeqAt.shaped d.py = true := by
  obtain ⟨a, b⟩ := D.okd_py h
  unfold SeqAt.shaped
  rw [Bool.and_eq_true]
  exact ⟨a, decide_eq_true (by omega)⟩
section
variable {K : PySem.W.Frag} {H : Hp} {w : OM} {o : Own}
mutual
theorem Fz.dp : ∀ {n : Nat} {d : D} {v : V}, Fz K H w d v → d.okd n = true → Dp K H v d.py
  | _, _, _, .non, _ => .non
  | _, _, _, .bl b, _ => .bl b
  | _, _, _, .int i, _ => .int i
  | _, _, _, .str x, _ => .str x
  | 0, _, _, .tup h t, e => by simp [D.okd] at e
  | 0, _, _, .lst h n t, e => by simp [D.okd] at e
  | 0, _, _, .scr h t, e => by simp [D.okd] at e
  | 0, _, _, .dct h n e t, q => by simp [D.okd] at q
  | 0, _, _, .dcu h n x e q r t, z => by simp [D.okd] at z
  | m + 1, _, _, .tup h t, e => .tup h.sq (FzL.dp t (by simpa [D.okd] using e))
  | m + 1, _, _, .lst h n t, e => .lst (.inl (.inl h)) (FzL.dp t (by simpa [D.okd] using e))
  | m + 1, _, _, .scr h t, e => .lst h.sq (FzL.dp t (by simpa [D.okd] using e))
  | m + 1, _, _, .dct h n e t, q => by simp [D.okd] at q
  | m + 1, _, _, .dcu h n x e q r t, z => by simp [D.okd] at z
theorem FzL.dp : ∀ {n : Nat} {ds : List D} {vs : List V}, FzL K H w ds vs → (∀ d ∈ ds, d.okd n = true) → DpAll K H vs (D.pyL ds)
  | _, _, _, .nil, _ => .nil
  | n, _, _, .cons h t, e => .cons (Fz.dp h (e _ (by simp))) (FzL.dp t fun d hd => e d (by simp [hd]))
end
theorem Ow1L.dp : ∀ {n : Nat} {ds : List D} {vs : List V}, Ow1L K H w o ds vs → (∀ d ∈ ds, d.okd n = true) → DpAll K H vs (D.pyL ds)
  | _, _, _, .nil, _ => .nil
  | 0, _, _, .cons h m t r, e => by have := e _ (List.mem_cons_self ..); simp [D.okd] at this
  | n + 1, _, _, .cons h m t r, e => .cons (.lst (.inl (.inl h)) (FzL.dp t (by have := e _ (List.mem_cons_self ..); simpa [D.okd] using this))) (Ow1L.dp r fun d hd => e d (by simp [hd]))
theorem Ow.dp {n k : Nat} {d : D} {v : V} (h : Ow K H w o k d v) (e : d.okd n = true) : Dp K H v d.py := by
  cases h with
  | fz h => exact h.dp e
  | lst h m t =>
    cases n with
    | zero => simp [D.okd] at e
    | succ n => exact .lst (.inl (.inl h)) (t.dp (n := n) (by simpa [D.okd] using e))
  | dct h m q t => cases n <;> simp [D.okd] at e
  | dcu h m x q r y t => cases n <;> simp [D.okd] at e
  | lst2 h m t nd =>
    cases n with
    | zero => simp [D.okd] at e
    | succ n => exact .lst (.inl (.inl h)) (t.dp (n := n) (by simpa [D.okd] using e))
end

theorem OwA.one {K : PySem.W.Frag} {H : Hp} {w : OM} {c : Cell} {vs : List V} (h : OwA K H w [c] vs) : ∃ v o, vs = [v] ∧ Ow K H w o c.k c.d v := by
  cases h with
  | cons n h t => cases t; exact ⟨_, _, rfl, h⟩
theorem OwA.two {K : PySem.W.Frag} {H : Hp} {w : OM} {c e : Cell} {vs : List V} (h : OwA K H w [c, e] vs) : ∃ v u o q, vs = [v, u] ∧ Ow K H w o c.k c.d v ∧ Ow K H w q e.k e.d u := by
  cases h with
  | cons n h t => cases t with
    | cons n2 h2 t => cases t; exact ⟨_, _, _, _, rfl, h, h2⟩

section
variable {X : Cx}
/-- one scalar out of any cells: the rule's wants are shown, the value is told -/
theorem s_scalar {r : List V → Hp → VK → Prop} {f : List Cell → R Cell}
    (h : ∀ (K : PySem.W.Frag) (H : Hp) (w : OM) (cs : List Cell) (vs : List V) (c : Cell) (Q : VK), K = X.K → OwA K H w cs vs → f cs = .ok c → ∃ d v, c = Cell.fz d ∧ isSc d v = true ∧ (Q v H → r vs H Q)) : CallS X r f := by
  intro n H w σ ρ cs vs c Q ok ow e k
  obtain ⟨d, v, rfl, hs, q⟩ := h X.K H w cs vs c Q rfl ow e
  exact q (k v H w ok Step.refl (.fz (isSc.fz hs)))

/-! #### arithmetic -/
def cmul (i j : Int) : Bool := decide (-(2 ^ 64) < i ∧ i < 2 ^ 64) || decide (-(2 ^ 64) < j ∧ j < 2 ^ 64)
def fSub : List Cell → R Cell := fI2 fun i j => .ok (.int (i - j))
theorem s_sub : CallS X (r2L (rI0 fun i j => .int (i - j))) fSub := s_I20 fun i j => by simp [isSc]
def fDiv : List Cell → R Cell := fI2 fun i j => if 0 < j ∧ j < 4611686018427387904 then .ok (.int (i / j)) else .bad
theorem s_div : CallS X (r2L (rI CDivW fun i j => .int (i / j))) fDiv := s_I2 fun i j d e => by
  split at e
  · rename_i h
    cases e
    exact ⟨wide_div h.1 (b := 62) (by have := h.2; omega) (by decide) (by decide), by simp [isSc]⟩
  · cases e
def fMod : List Cell → R Cell := fI2 fun i j => if 0 < j then .ok (.int (i % j)) else .bad
theorem s_mod : CallS X (r2L (rI (fun _ j => 0 < j) fun i j => .int (i % j))) fMod := s_I2 fun i j d e => by
  split at e
  · cases e; exact ⟨by assumption, by simp [isSc]⟩
  · cases e
def cpow (i j : Int) : Bool := decide (0 ≤ j) && decide (j ≤ 1000000) && decide (i.natAbs < 2 ^ 64)
theorem cpow_ok {i j : Int} (h : cpow i j = true) : CPow i j := by
  unfold cpow at h
  simp only [Bool.and_eq_true, decide_eq_true_eq] at h
  exact ⟨h.1.1, h.1.2, h.2⟩
def fPow : List Cell → R Cell := fI2 fun i j => if cpow i j then .ok (.int (i ^ j.toNat)) else .bad
theorem s_pow : CallS X (r2L (rI CPow fun i j => .int (i ^ j.toNat))) fPow := s_I2 fun i j d e => by
  split at e
  · cases e; exact ⟨cpow_ok (by assumption), by simp [isSc]⟩
  · cases e
def fShl : List Cell → R Cell := fI2 fun i j => if cpow i j then .ok (.int (i * 2 ^ j.toNat)) else .bad
theorem s_shl : CallS X (r2L (rI CPow fun i j => .int (i * 2 ^ j.toNat))) fShl := s_I2 fun i j d e => by
  split at e
  · cases e; exact ⟨cpow_ok (by assumption), by simp [isSc]⟩
  · cases e
def fShr : List Cell → R Cell := fI2 fun i j => if 0 ≤ j then .ok (.int (i / 2 ^ j.toNat)) else .bad
theorem s_shr : CallS X (r2L (rI (fun _ j => 0 ≤ j) fun i j => .int (i / 2 ^ j.toNat))) fShr := s_I2 fun i j d e => by
  split at e
  · cases e; exact ⟨by assumption, by simp [isSc]⟩
  · cases e
def fBand : List Cell → R Cell := fI2 fun i j => .ok (.int (Builtin.bitAnd i j))
theorem s_band : CallS X (r2L (rI0 fun i j => .int (Builtin.bitAnd i j))) fBand := s_I20 fun i j => by simp [isSc]
/-- + of ints, texts, tuples, lists -/
def fAdd : List Cell → R Cell
  | [⟨.int i, _⟩, ⟨.int j, _⟩] => .ok (Cell.fz (.int (i + j)))
  | [⟨.str x, _⟩, ⟨.str y, _⟩] => if x.length + y.length ≤ 16777216 then .ok (Cell.fz (.str (x ++ y))) else .bad
  | [⟨.tup l, _⟩, ⟨.tup m, _⟩] => if l.length + m.length ≤ 16777216 then .ok (Cell.fz (.tup (l ++ m))) else .bad
  | [⟨.lst l, k⟩, ⟨.lst m, j⟩] => if k ≤ 1 ∧ j ≤ 1 ∧ l.length + m.length ≤ 16777216 then .ok ⟨.lst (l ++ m), 1⟩ else .bad
  | _ => .bad
def rAddAll (K : PySem.W.Frag) : R2 := fun x y H Q => (rI0 (fun i j => .int (i + j)) x y H Q) ∨ (∃ i j, x = .str i ∧ y = .str j ∧ i.length + j.length ≤ sizeLine ∧ Q (.str (i ++ j)) H) ∨ rCatF K x y H Q ∨ rCat x y H Q
theorem op_addAll : OpR X (binaryOp .Add) (rAddAll X.K) := op_add.or (op_add_str.or (op_catF.or op_cat))
theorem s_add : CallS X (r2L (rAddAll X.K)) fAdd := by
  intro n H w σ ρ cs vs c Q ok ow e k
  unfold fAdd at e
  split at e
  · cases e
    obtain ⟨v, u, o, q, rfl, h1, h2⟩ := ow.two
    cases ow_int h1
    cases ow_int h2
    exact .inl ⟨_, _, rfl, rfl, k _ H w ok Step.refl (.fz (.int _))⟩
  · split at e
    · cases e
      obtain ⟨v, u, o, q, rfl, h1, h2⟩ := ow.two
      cases ow_str h1
      cases ow_str h2
      exact .inr (.inl ⟨_, _, rfl, rfl, by rw [sizeLine_eq]; assumption, k _ H w ok Step.refl (.fz (.str _))⟩)
    · cases e
  · split at e
    · cases e
      obtain ⟨v, u, o, q, rfl, h1, h2⟩ := ow.two
      obtain ⟨a, xs, rfl, ta, fa⟩ := ow_tup h1
      obtain ⟨b, ys, rfl, tb, fb⟩ := ow_tup h2
      have la := fa.length
      have lb := fb.length
      refine .inr (.inr (.inl ⟨a, b, xs, ys, rfl, rfl, ta.sq, tb.sq, by rw [sizeLine_eq, ← la, ← lb]; assumption, fun e0 => ?_, fun _ e0 => ?_, fun n1 n2 p ob hp hd => ?_⟩))
      · subst e0
        cases fa
        exact k _ H w ok Step.refl (.fz (.tup tb fb))
      · subst e0
        cases fb
        refine k _ H w ok Step.refl (.fz ?_)
        show Fz X.K H w (.tup (_ ++ [])) _
        rw [List.append_nil]
        exact .tup ta fa
      · refine k _ _ (w.put p .no) (ok.new hp .no) (Step.new hp) (.fz (.tup (.inl ⟨⟨ob, upd_same, hd⟩, OM.put_same⟩) ?_))
        exact ((fa.append fb).step (Kp.new hp .no))
    · cases e
  · split at e
    · rename_i hc
      cases e
      obtain ⟨v, u, o, q, rfl, h1, h2⟩ := ow.two
      obtain ⟨a, xs, rfl, ta, la, fa⟩ := ow_lst h1
      obtain ⟨b, ys, rfl, tb, lb, fb⟩ := ow_lst h2
      refine .inr (.inr (.inr ⟨a, b, xs, ys, rfl, rfl, ta, tb, by rw [sizeLine_eq, ← la, ← lb]; exact hc.2.2, fun p hp => ?_⟩))
      refine k _ _ (w.put p (.tm n)) (ok.new hp _) (Step.new hp) (.lst upd_same OM.put_same ?_)
      exact (((fa hc.1).append (fb hc.2.1)).step (Kp.new hp .no))
    · cases e
  · cases e
/-- * of ints, of a list and an int -/
def fMul : List Cell → R Cell
  | [⟨.int i, _⟩, ⟨.int j, _⟩] => if cmul i j then .ok (Cell.fz (.int (i * j))) else .bad
  | [⟨.lst l, k⟩, ⟨.int j, _⟩] => if k ≤ 1 ∧ -(2 ^ 63) ≤ j ∧ j < 2 ^ 63 ∧ l.length * j.toNat ≤ 16777216 then .ok ⟨.lst (List.replicate j.toNat l).flatten, 1⟩ else .bad
  | _ => .bad
theorem cmul_ok {i j : Int} (h : cmul i j = true) : CMul i j := by
  unfold cmul at h
  simpa [CMul] using h
def rMulAll : R2 := fun x y H Q => (rI CMul (fun i j => .int (i * j)) x y H Q) ∨ rRep x y H Q
theorem op_mulAll : OpR X (binaryOp .Mult) rMulAll := op_mul.or op_rep
theorem s_mul : CallS X (r2L rMulAll) fMul := by
  intro n H w σ ρ cs vs c Q ok ow e k
  unfold fMul at e
  split at e
  · split at e
    · cases e
      obtain ⟨v, u, o, q, rfl, h1, h2⟩ := ow.two
      cases ow_int h1
      cases ow_int h2
      exact .inl ⟨_, _, rfl, rfl, cmul_ok (by assumption), k _ H w ok Step.refl (.fz (.int _))⟩
    · cases e
  · split at e
    · rename_i hc
      cases e
      obtain ⟨v, u, o, q, rfl, h1, h2⟩ := ow.two
      obtain ⟨a, xs, rfl, ta, la, fa⟩ := ow_lst h1
      cases ow_int h2
      refine .inr ⟨a, _, xs, rfl, rfl, ta, hc.2.1, hc.2.2.1, by rw [sizeLine_eq, ← la]; exact hc.2.2.2, fun p hp => ?_⟩
      exact k _ _ (w.put p (.tm n)) (ok.new hp _) (Step.new hp) (.lst upd_same OM.put_same (((fa hc.1).rep _).step (Kp.new hp .no)))
    · cases e
  · cases e
def fNeg : List Cell → R Cell
  | [⟨.int i, _⟩] => .ok (Cell.fz (.int (-i)))
  | _ => .bad
theorem s_neg : CallS X (r1L (rU fun i => .int (-i))) fNeg := s_scalar fun K H w cs vs c Q _ ow e => by
  unfold fNeg at e
  split at e
  · cases e
    obtain ⟨v, o, rfl, h1⟩ := ow.one
    cases ow_int h1
    exact ⟨_, .int (-_), rfl, by simp [isSc], fun q => ⟨_, rfl, q⟩⟩
  · cases e

/-! #### comparisons -/
def fCmp (p : Int → Int → Bool) : List Cell → R Cell := fI2 fun i j => .ok (.bl (p i j))
theorem s_cmp {p : Int → Int → Bool} : CallS X (r2L (rI0 fun i j => .bl (p i j))) (fCmp p) := s_I20 fun i j => by simp [isSc]
abbrev fLt := fCmp fun i j => decide (i < j)
abbrev fLe := fCmp fun i j => decide (i ≤ j)
abbrev fGt := fCmp fun i j => decide (j < i)
abbrev fGe := fCmp fun i j => decide (j ≤ i)
def fEq : List Cell → R Cell
  | [c, e] => if c.d.okd 60 && e.d.okd 60 then .ok (Cell.fz (.bl (c.d.eqv e.d))) else .bad
  | _ => .bad
def fNe : List Cell → R Cell
  | [c, e] => if c.d.okd 60 && e.d.okd 60 then .ok (Cell.fz (.bl (!c.d.eqv e.d))) else .bad
  | _ => .bad
theorem s_eq : CallS X (r2L (rEqD X.K)) fEq := s_scalar fun K H w cs vs c Q hK ow e => by
  subst hK
  unfold fEq at e
  split at e
  · split at e
    · rename_i c1 c2 hc
      cases e
      rw [Bool.and_eq_true] at hc
      obtain ⟨v, u, o, q, rfl, h1, h2⟩ := ow.two
      exact ⟨_, .bl (c1.d.eqv c2.d), rfl, by simp [isSc], fun q => ⟨_, _, h1.dp hc.1, h2.dp hc.2, D.okd_shaped hc.1, D.okd_shaped hc.2, q⟩⟩
    · cases e
  · cases e
theorem s_ne : CallS X (r2L (rNeD X.K)) fNe := s_scalar fun K H w cs vs c Q hK ow e => by
  subst hK
  unfold fNe at e
  split at e
  · split at e
    · rename_i c1 c2 hc
      cases e
      rw [Bool.and_eq_true] at hc
      obtain ⟨v, u, o, q, rfl, h1, h2⟩ := ow.two
      exact ⟨_, .bl (!c1.d.eqv c2.d), rfl, by simp [isSc], fun q => ⟨_, _, h1.dp hc.1, h2.dp hc.2, D.okd_shaped hc.1, D.okd_shaped hc.2, q⟩⟩
    · cases e
  · cases e
def isNon : D → Bool
  | .non => true
  | _ => false
def fIsN : List Cell → R Cell
  | [c, ⟨.non, _⟩] => .ok (Cell.fz (.bl (isNon c.d)))
  | _ => .bad
def fNotN : List Cell → R Cell
  | [c, ⟨.non, _⟩] => .ok (Cell.fz (.bl (!isNon c.d)))
  | _ => .bad
end
end Z

/-! Z3b: dicts, by the keys' values. -/
namespace Z
open PySem PySem.Spec PyProof.Rows L2

/-! ### keys -/
mutual
theorem D.nk_inj : ∀ {n m : Nat} {a b : D}, a.kk n = true → b.kk m = true → a.nk = b.nk → a = b
  | _, _, .int i, .int j, _, _, e => by simp only [D.nk, NestedKey.num.injEq] at e; rw [e]
  | _, _, .non, .non, _, _, _ => rfl
  | n + 1, m + 1, .tup l, .tup k, h1, h2, e => by
    simp only [D.nk, NestedKey.tup.injEq] at e
    simp only [D.kk, List.all_eq_true] at h1 h2
    rw [D.nkL_inj (n := n) (m := m) h1 h2 e]
  | _, _, .int i, .non, _, _, e => by simp [D.nk] at e
  | _, _, .non, .int i, _, _, e => by simp [D.nk] at e
  | _, _, .int i, .tup _, _, _, e => by simp [D.nk] at e
  | _, _, .tup _, .int i, _, _, e => by simp [D.nk] at e
  | _, _, .non, .tup _, _, _, e => by simp [D.nk] at e
  | _, _, .tup _, .non, _, _, e => by simp [D.nk] at e
  | 0, _, .tup _, .tup _, h, _, _ => by simp [D.kk] at h
  | _, 0, .tup _, .tup _, _, h, _ => by simp [D.kk] at h
  | 0, _, .bl _, _, h, _, _ => by simp [D.kk] at h
  | _ + 1, _, .bl _, _, h, _, _ => by simp [D.kk] at h
  | 0, _, .str _, _, h, _, _ => by simp [D.kk] at h
  | _ + 1, _, .str _, _, h, _, _ => by simp [D.kk] at h
  | 0, _, .lst _, _, h, _, _ => by simp [D.kk] at h
  | _ + 1, _, .lst _, _, h, _, _ => by simp [D.kk] at h
  | 0, _, .scr _, _, h, _, _ => by simp [D.kk] at h
  | _ + 1, _, .scr _, _, h, _, _ => by simp [D.kk] at h
  | 0, _, .dct _ _, _, h, _, _ => by simp [D.kk] at h
  | _ + 1, _, .dct _ _, _, h, _, _ => by simp [D.kk] at h
  | _, 0, _, .bl _, _, h, _ => by simp [D.kk] at h
  | _, _ + 1, _, .bl _, _, h, _ => by simp [D.kk] at h
  | _, 0, _, .str _, _, h, _ => by simp [D.kk] at h
  | _, _ + 1, _, .str _, _, h, _ => by simp [D.kk] at h
  | _, 0, _, .lst _, _, h, _ => by simp [D.kk] at h
  | _, _ + 1, _, .lst _, _, h, _ => by simp [D.kk] at h
  | _, 0, _, .scr _, _, h, _ => by simp [D.kk] at h
  | _, _ + 1, _, .scr _, _, h, _ => by simp [D.kk] at h
  | _, 0, _, .dct _ _, _, h, _ => by simp [D.kk] at h
  | _, _ + 1, _, .dct _ _, _, h, _ => by simp [D.kk] at h
theorem D.nkL_inj : ∀ {n m : Nat} {a b : List D}, (∀ x ∈ a, x.kk n = true) → (∀ x ∈ b, x.kk m = true) → D.nkL a = D.nkL b → a = b
  | _, _, [], [], _, _, _ => rfl
  | _, _, [], _ :: _, _, _, e => by simp [D.nkL] at e
  | _, _, _ :: _, [], _, _, e => by simp [D.nkL] at e
  | n, m, x :: a, y :: b, h1, h2, e => by
    simp only [D.nkL, List.cons.injEq] at e
    rw [D.nk_inj (h1 x (List.mem_cons_self ..)) (h2 y (List.mem_cons_self ..)) e.1, D.nkL_inj (fun z hz => h1 z (List.mem_cons_of_mem _ hz)) (fun z hz => h2 z (List.mem_cons_of_mem _ hz)) e.2]
end
mutual
theorem D.nk_hash (W W' : World) : ∀ d : D, d.nk.hash W = d.nk.hash W'
  | .int i => by simp [D.nk, NestedKey.hash]
  | .tup l => by simp only [D.nk, NestedKey.hash]; rw [D.nkL_hash W W' l]
  | .non => by simp [D.nk, NestedKey.hash]
  | .bl _ => by simp [D.nk, NestedKey.hash]
  | .str _ => by simp [D.nk, NestedKey.hash]
  | .lst _ => by simp [D.nk, NestedKey.hash]
  | .scr _ => by simp [D.nk, NestedKey.hash]
  | .dct _ _ => by simp [D.nk, NestedKey.hash]
theorem D.nkL_hash (W W' : World) : ∀ l : List D, NestedKey.hashes W (D.nkL l) = NestedKey.hashes W' (D.nkL l)
  | [] => by simp [D.nkL, NestedKey.hashes]
  | d :: r => by simp only [D.nkL, NestedKey.hashes]; rw [D.nk_hash W W' d, D.nkL_hash W W' r]
end
mutual
theorem D.nk_depth : ∀ {n : Nat} {d : D}, d.kk n = true → d.nk.depth ≤ n
  | _, .int i, _ => by simp [D.nk, NestedKey.depth]
  | _, .non, _ => by simp [D.nk, NestedKey.depth]
  | n + 1, .tup l, h => by
    simp only [D.kk, List.all_eq_true] at h
    simp only [D.nk, NestedKey.depth]
    have := D.nkL_depth h
    omega
  | 0, .tup _, h => by simp [D.kk] at h
  | _, .bl _, _ => by simp [D.nk, NestedKey.depth]
  | _, .str _, _ => by simp [D.nk, NestedKey.depth]
  | _, .lst _, _ => by simp [D.nk, NestedKey.depth]
  | _, .scr _, _ => by simp [D.nk, NestedKey.depth]
  | _, .dct _ _, _ => by simp [D.nk, NestedKey.depth]
theorem D.nkL_depth : ∀ {n : Nat} {l : List D}, (∀ x ∈ l, x.kk n = true) → NestedKey.depthAll (D.nkL l) ≤ n
  | _, [], _ => by simp [D.nkL, NestedKey.depthAll]
  | n, d :: r, h => by
    have h1 := D.nk_depth (h d (List.mem_cons_self ..))
    have h2 := D.nkL_depth (l := r) (fun z hz => h z (List.mem_cons_of_mem _ hz))
    simp only [D.nkL, NestedKey.depthAll]
    omega
end
theorem D.tk_kk {d : D} (h : d.tk = true) : d.kk 8 = true := by
  cases d <;> simp [D.tk] at h
  simpa [D.kk] using h
theorem D.tk_inj {a b : D} (h : a.tk = true) (h' : b.tk = true) (e : a.nk = b.nk) : a = b := D.nk_inj (D.tk_kk h) (D.tk_kk h') e

section
variable {X : Cx} {H : Hp} {w : OM} {o : Own}
/-- the value v is the key d -/
def NkV (X : Cx) (H : Hp) (d : D) (v : V) : Prop := ∀ (pins : List (Addr × Obj)) (σ : L2.St) (s : Shared) (u : Value), Inv X pins σ H s → RelV v u → NestedIs s.heap d.nk u
mutual
theorem Fz.nkv : ∀ {n : Nat} {d : D} {v : V}, Fz X.K H w d v → d.kk n = true → NkV X H d v
  | _, _, _, .int i, _ => fun pins σ s u I r => by obtain ⟨t, rfl⟩ := (show ∃ t, u = Value.int i t from r); simp only [D.nk]; exact .int i t
  | _, _, _, .non, _ => fun pins σ s u I r => by cases (show u = Value.none from r); simp only [D.nk]; exact .none
  | n + 1, _, _, .tup h t, e => fun pins σ s u I r => by
    simp only [D.kk, List.all_eq_true] at e
    cases (show u = Value.ref _ from r)
    obtain ⟨its, r', ⟨ob, g, hc, m, hd⟩, _⟩ := I.tuple h.sq
    simp only [D.nk]
    exact .tup g hc hd (by simpa using FzL.nkv t e pins σ s its I r')
  | 0, _, _, .tup h t, e => by simp [D.kk] at e
  | 0, _, _, .bl _, e => by simp [D.kk] at e
  | _ + 1, _, _, .bl _, e => by simp [D.kk] at e
  | 0, _, _, .str _, e => by simp [D.kk] at e
  | _ + 1, _, _, .str _, e => by simp [D.kk] at e
  | 0, _, _, .lst .., e => by simp [D.kk] at e
  | _ + 1, _, _, .lst .., e => by simp [D.kk] at e
  | 0, _, _, .scr .., e => by simp [D.kk] at e
  | _ + 1, _, _, .scr .., e => by simp [D.kk] at e
  | 0, _, _, .dct .., e => by simp [D.kk] at e
  | _ + 1, _, _, .dct .., e => by simp [D.kk] at e
  | 0, _, _, .dcu .., e => by simp [D.kk] at e
  | _ + 1, _, _, .dcu .., e => by simp [D.kk] at e
theorem FzL.nkv : ∀ {n : Nat} {ds : List D} {vs : List V}, FzL X.K H w ds vs → (∀ d ∈ ds, d.kk n = true) → ∀ (pins : List (Addr × Obj)) (σ : L2.St) (s : Shared) (us : List Value), Inv X pins σ H s → Vals vs us → NestedAll s.heap (D.nkL ds) us
  | _, _, _, .nil, _ => fun pins σ s us I r => by cases r; simp only [D.nkL]; exact .nil
  | n, _, _, .cons h t, e => fun pins σ s us I r => by
    cases r with
    | cons r1 r2 =>
      simp only [D.nkL]
      exact .cons (Fz.nkv h (e _ (List.mem_cons_self ..)) pins σ s _ I r1) (FzL.nkv t (fun d hd => e d (List.mem_cons_of_mem _ hd)) pins σ s _ I r2)
end
/-! ### a dict with tuples for keys -/
def uK (xs : List (D × Addr × Value)) : List (NestedKey × Addr × Value) := xs.map fun x => (x.1.nk, x.2)
def uGet (xs : List (D × Addr × Value)) (k : D) : Option (Addr × Value) := (xs.find? fun x => decide (x.1 = k)).map (·.2)
def uPut (xs : List (D × Addr × Value)) (k : D) (b : Addr) (u : Value) : List (D × Addr × Value) :=
  if (uGet xs k).isSome then xs.map (fun x => if x.1 = k then (x.1, x.2.1, u) else x) else xs ++ [(k, b, u)]
theorem atKey_uK {k : D} (hk : k.tk = true) : ∀ {xs : List (D × Addr × Value)}, (∀ x ∈ xs, x.1.tk = true) → atKey (uK xs) k.nk = uGet xs k
  | [], _ => rfl
  | x :: xs, h => by
    have ih := atKey_uK hk (xs := xs) fun y hy => h y (List.mem_cons_of_mem _ hy)
    unfold uK atKey uGet at ih ⊢
    rw [List.map_cons, List.find?_cons, List.find?_cons]
    by_cases e : x.1 = k
    · simp [e]
    · have e' : ¬ x.1.nk = k.nk := fun z => e (D.tk_inj (h x (List.mem_cons_self ..)) hk z)
      simp only [e, e', decide_false]
      exact ih
theorem uPut_uK {k : D} {b : Addr} {u : Value} (hk : k.tk = true) {xs : List (D × Addr × Value)} (h : ∀ x ∈ xs, x.1.tk = true) : storedH (uK xs) k.nk b u = uK (uPut xs k b u) := by
  unfold storedH uPut
  rw [atKey_uK hk h]
  split
  · unfold uK
    rw [List.map_map, List.map_map]
    refine List.map_congr_left fun x hx => ?_
    simp only [Function.comp]
    unfold putAt
    by_cases e : x.1 = k
    · simp [e]
    · have e' : ¬ x.1.nk = k.nk := fun z => e (D.tk_inj (h x hx) hk z)
      simp [e, e']
  · unfold uK; simp
theorem uPut_tk {k : D} {b : Addr} {u : Value} (hk : k.tk = true) {xs : List (D × Addr × Value)} (h : ∀ x ∈ xs, x.1.tk = true) : ∀ x ∈ uPut xs k b u, x.1.tk = true := by
  unfold uPut
  split
  · intro x hx
    obtain ⟨y, hy, rfl⟩ := List.mem_map.mp hx
    split <;> exact h y hy
  · intro x hx
    rcases List.mem_append.mp hx with hx | hx
    · exact h x hx
    · rw [List.mem_singleton] at hx; subst hx; exact hk
theorem uPut_ne {k : D} {b : Addr} {u : Value} {xs : List (D × Addr × Value)} : uPut xs k b u ≠ [] := by
  unfold uPut
  split
  · rename_i h
    cases xs with
    | nil => simp [uGet] at h
    | cons _ _ => simp
  · simp
theorem uPut_len {k : D} {b : Addr} {u : Value} {xs : List (D × Addr × Value)} : (uPut xs k b u).length ≤ xs.length + 1 := by
  unfold uPut
  split <;> simp
theorem wK_nil {prog : Program} {w : World} {h : Heap} {a : Addr} (x : h.DictOf (mixKind prog w) a []) : h.DictOfH (nestedKind prog w) a (uK []) := by
  obtain ⟨o, es, ep, h1, h2, h3, h4, h5, h6⟩ := x
  have e : es.toList = [] := by
    generalize es.toList = l at h5
    cases h5
    rfl
  exact ⟨o, es, ep, h1, h2, h3, e, fun x hx => by simp [uK] at hx, List.nodup_nil⟩
def UAt (X : Cx) (H : Hp) (a : Addr) (xs : List (D × Addr × Value)) : Prop := ∃ ob, H a = some (.ext fun h => h.get? a = some ob) ∧ ExD ob a xs ∧ ∀ x ∈ xs, NkV X H x.1 (.ref x.2.1)
theorem UAt.dict {pins : List (Addr × Obj)} {σ : L2.St} {s : Shared} {a : Addr} {xs : List (D × Addr × Value)} (I : Inv X pins σ H s) (x : UAt X H a xs) :
    (a == sysModules) = false ∧ xs.length ≤ sizeLine ∧ (∀ x ∈ xs, x.1.tk = true) ∧ s.heap.DictOfH (nestedKind X.prog X.w) a (uK xs) := by
  obtain ⟨ob, hH, ⟨e1, e2, e3, e4, e5, e6, es, ep, e7, e8⟩, hk⟩ := x
  have hg : s.heap.get? a = some ob := (I.hok a _ hH).1
  refine ⟨e1, e3, e5, ob, es, ep, hg, e2, e7, ?_, fun x hx => ?_, ?_⟩
  · rw [e8 X.w]
    unfold uK
    rw [List.map_map]
    rfl
  · obtain ⟨y, hy, rfl⟩ := List.mem_map.mp hx
    exact ⟨hk y hy pins σ s _ I rfl, D.nk_depth (D.tk_kk (e5 y hy))⟩
  · unfold uK
    rw [List.map_map]
    exact e6
/-- a dict whose keys are tuples, or one without entries -/
def UAt0 (X : Cx) (H : Hp) (a : Addr) (xs : List (D × Addr × Value)) : Prop := UAt X H a xs ∨ (xs = [] ∧ Rd H a (.dK []))
theorem UAt0.dict {pins : List (Addr × Obj)} {σ : L2.St} {s : Shared} {a : Addr} {xs : List (D × Addr × Value)} (I : Inv X pins σ H s) (x : UAt0 X H a xs) :
    (a == sysModules) = false ∧ xs.length ≤ sizeLine ∧ (∀ x ∈ xs, x.1.tk = true) ∧ s.heap.DictOfH (nestedKind X.prog X.w) a (uK xs) := by
  rcases x with x | ⟨rfl, x⟩
  · exact x.dict I
  · obtain ⟨h1, h2, vs, h3, h4⟩ := dk_rd I.hok x
    cases h3
    exact ⟨h2, Nat.zero_le _, fun x hx => (nomatch hx), wK_nil h4⟩
section
variable {pins : List (Addr × Obj)} {σ : L2.St} {s : Shared} {a b : Addr} {xs : List (D × Addr × Value)} {k : D} {A : Around} {E : Value → Shared → Prop}
theorem room_u (hu : A.units + 65 < cLine) : (nestedKind X.prog X.w).room A.in1 := by
  show A.in1.units + 8 < cLine
  have : A.in1.units = A.units + 1 := rfl
  omega
theorem u_getItem {p : Addr × Value} {v : V} {Q : Value → Shared → Prop} (hu : A.units + 65 < cLine) (I : Inv X pins σ H s) (g : UAt0 X H a xs) (hk : k.tk = true) (kv : NkV X H k (.ref b)) (hp : uGet xs k = some p) (rv : RelV v p.2)
    (h : ∀ w' s', Inv X pins σ H s' → RelV v w' → Q w' s') : wpAny (model X.prog X.w) A (getItem (.ref a) (.ref b)) Q E s := by
  obtain ⟨h1, h2, h3, h4⟩ := g.dict I
  refine wpAny_getItem_heap (room_u hu) ⟨kv pins σ s _ I rfl, D.nk_depth (D.tk_kk hk)⟩ h4 (p := p) (by rw [atKey_uK hk h3]; exact hp) ?_
  exact h _ _ (I.tok _) rv
theorem u_in {Q : Value → Shared → Prop} (hu : A.units + 65 < cLine) (I : Inv X pins σ H s) (g : UAt0 X H a xs) (hk : k.tk = true) (kv : NkV X H k (.ref b)) (h : ∀ s', Inv X pins σ H s' → Q (.bool (uGet xs k).isSome) s') :
    wpAny (model X.prog X.w) A (compareOp .In (.ref b) (.ref a)) Q E s := by
  obtain ⟨h1, h2, h3, h4⟩ := g.dict I
  refine wpAny_in_heap (room_u hu) ⟨kv pins σ s _ I rfl, D.nk_depth (D.tk_kk hk)⟩ h1 h4 ?_
  rw [atKey_uK hk h3]
  exact h _ (I.tok _)
theorem u_notIn {Q : Value → Shared → Prop} (hu : A.units + 65 < cLine) (I : Inv X pins σ H s) (g : UAt0 X H a xs) (hk : k.tk = true) (kv : NkV X H k (.ref b)) (h : ∀ s', Inv X pins σ H s' → Q (.bool (!(uGet xs k).isSome)) s') :
    wpAny (model X.prog X.w) A (compareOp .NotIn (.ref b) (.ref a)) Q E s := by
  obtain ⟨h1, h2, h3, h4⟩ := g.dict I
  refine wpAny_notIn_heap (room_u hu) ⟨kv pins σ s _ I rfl, D.nk_depth (D.tk_kk hk)⟩ h1 h4 ?_
  rw [atKey_uK hk h3]
  exact h _ (I.tok _)
theorem u_setItem {r : Value} {Q : Unit → Shared → Prop} (hu : A.units + 65 < cLine) (I : Inv X pins σ H s) (mu : Mut (H a)) (g : UAt0 X H a xs) (hk : k.tk = true) (kv : NkV X H k (.ref b)) (hl : xs.length < sizeLine)
    (h : ∀ s' ob, ExD ob a (uPut xs k b r) → Inv X pins σ (upd H a (.ext fun h => h.get? a = some ob)) s' → Q () s') : wpAny (model X.prog X.w) A (setItem (.ref a) (.ref b) r) Q E s := by
  obtain ⟨h1, h2, h3, h4⟩ := g.dict I
  have hz : (uK xs).length ≤ sizeLine := by unfold uK; rw [List.length_map]; exact h2
  refine wpAny_setItem_heap (hsz := hz) (room_u hu) ⟨kv pins σ s _ I rfl, D.nk_depth (D.tk_kk hk)⟩ h4 fun h' dd' hs => ?_
  rw [uPut_uK hk h3] at dd'
  obtain ⟨q, es, ep, hq, d2, d3, d4, _, d5⟩ := dd'
  have hlen := uPut_len (xs := xs) (k := k) (b := b) (u := r)
  refine h _ q ⟨h1, d2, by omega, uPut_ne, uPut_tk hk h3, ?_, es, ep, d3, fun W => ?_⟩ (d_write I mu hs ⟨q, hq⟩ ⟨hq, ⟨q, hq⟩, fun _ _ e k => k _ e⟩)
  · unfold uK at d5
    rw [List.map_map] at d5
    exact d5
  · rw [d4]
    unfold uK
    rw [List.map_map]
    refine List.map_congr_left fun x _ => ?_
    rw [← D.nk_hash X.w W x.1]
    rfl
end
/-! ### entries, as values -/
def dGet : List D → List D → D → Option D
  | k :: ks, d :: ds, q => if k = q then some d else dGet ks ds q
  | _, _, _ => none
def dPutK (ks : List D) (q : D) : List D := if q ∈ ks then ks else ks ++ [q]
def dPutV {α : Type} (ks : List D) (ds : List α) (q : D) (v : α) : List α := if q ∈ ks then List.zipWith (fun k d => if k = q then v else d) ks ds else ds ++ [v]
theorem kD_inj {a b : Key} (e : kD a = kD b) : a = b := by
  cases a <;> cases b <;> simp [kD] at e <;> rw [e]
section
variable {K : PySem.W.Frag} {H : Hp} {w : OM}
theorem dGet_fz {q : Key} : ∀ {ds : List D} {kvs : List (Key × V)}, FzL K H w ds (kvs.map (·.2)) → (∀ d, dGet (kvs.map fun p => kD p.1) ds (kD q) = some d → ∃ v, valV kvs q = some v ∧ Fz K H w d v)
  | [], [], _ => fun d h => by simp [dGet] at h
  | d :: ds, p :: kvs, .cons h t => by
    have ih := dGet_fz (q := q) t
    by_cases e : p.1 = q
    · rw [List.map_cons, dGet, if_pos (by rw [e]), valV_pos e]
      exact fun d' z => by cases z; exact ⟨_, rfl, h⟩
    · rw [List.map_cons, dGet, if_neg (fun z => e (kD_inj z)), valV_neg e]
      exact ih
theorem dGet_u {k : D} : ∀ {ds : List D} {vs : List V} {xs : List (D × Addr × Value)}, FzL K H w ds vs → Vals vs (xs.map (·.2.2)) → ∀ d, dGet (xs.map (·.1)) ds k = some d → ∃ p v, uGet xs k = some p ∧ RelV v p.2 ∧ Fz K H w d v
  | _, _, [], _, _ => fun d h => by simp [dGet] at h
  | _, _, x :: xs, .cons h t, .cons r r2 => fun d e => by
    rw [List.map_cons, dGet] at e
    by_cases z : x.1 = k
    · rw [if_pos z] at e
      cases e
      exact ⟨x.2, _, by simp [uGet, z], r, h⟩
    · rw [if_neg z] at e
      obtain ⟨p, v, h1, h2, h3⟩ := dGet_u t r2 d e
      exact ⟨p, v, by simpa [uGet, List.find?_cons, z] using h1, h2, h3⟩
theorem uGet_mem {k : D} : ∀ {xs : List (D × Addr × Value)}, (uGet xs k).isSome = decide (k ∈ xs.map (·.1))
  | [] => by simp [uGet]
  | x :: xs => by
    have ih := uGet_mem (k := k) (xs := xs)
    by_cases z : x.1 = k
    · simp [uGet, z]
    · have e : uGet (x :: xs) k = uGet xs k := by simp [uGet, List.find?_cons, z]
      rw [e, ih]
      have : ¬ k = x.1 := fun q => z q.symm
      simp [this]
theorem valV_mem {q : Key} : ∀ {kvs : List (Key × V)}, (valV kvs q).isSome = decide (kD q ∈ kvs.map fun p => kD p.1)
  | [] => by simp [valV_nil]
  | p :: kvs => by
    have ih := valV_mem (q := q) (kvs := kvs)
    by_cases z : p.1 = q
    · rw [valV_pos z]; simp [z]
    · rw [valV_neg z, ih]
      have : ¬ kD q = kD p.1 := fun e => z (kD_inj e).symm
      simp [this]
theorem FzL.zipPut {d : D} {v : V} {q : D} (r : Fz K H w d v) : ∀ {ks ds : List D} {vs : List V}, FzL K H w ds vs → FzL K H w (List.zipWith (fun k x => if k = q then d else x) ks ds) (List.zipWith (fun k x => if k = q then v else x) ks vs)
  | [], _, _, _ => .nil
  | _ :: _, _, _, .nil => .nil
  | k :: ks, _, _, .cons h t => by
    rw [List.zipWith_cons_cons, List.zipWith_cons_cons]
    by_cases e : k = q
    · rw [if_pos e, if_pos e]; exact .cons r (FzL.zipPut r t)
    · rw [if_neg e, if_neg e]; exact .cons h (FzL.zipPut r t)
theorem Vals.zipPut {v : V} {u : Value} {q : D} (r : RelV v u) : ∀ {ks : List D} {vs : List V} {us : List Value}, Vals vs us → Vals (List.zipWith (fun k x => if k = q then v else x) ks vs) (List.zipWith (fun k x => if k = q then u else x) ks us)
  | [], _, _, _ => .nil
  | _ :: _, _, _, .nil => .nil
  | k :: ks, _, _, .cons h t => by
    rw [List.zipWith_cons_cons, List.zipWith_cons_cons]
    by_cases e : k = q
    · rw [if_pos e, if_pos e]; exact .cons r (Vals.zipPut r t)
    · rw [if_neg e, if_neg e]; exact .cons h (Vals.zipPut r t)
theorem FzL.putV {d : D} {v : V} {q : D} {ks ds : List D} {vs : List V} (h : FzL K H w ds vs) (r : Fz K H w d v) : FzL K H w (dPutV ks ds q d) (dPutV ks vs q v) := by
  unfold dPutV
  split
  · exact h.zipPut r
  · exact h.append (.cons r .nil)
theorem zip_map {α β γ δ : Type} (f : α → β → γ) (g : δ → α) (h : δ → β) (l : List δ) : List.zipWith f (l.map g) (l.map h) = l.map fun x => f (g x) (h x) := by
  induction l with
  | nil => rfl
  | cons a r ih => simp [ih]
theorem uPut_keys {k : D} {b : Addr} {u : Value} {xs : List (D × Addr × Value)} : (uPut xs k b u).map (·.1) = dPutK (xs.map (·.1)) k := by
  unfold uPut dPutK
  rw [uGet_mem]
  simp only [decide_eq_true_eq]
  split
  · rw [List.map_map]
    refine List.map_congr_left fun x _ => ?_
    simp only [Function.comp]
    split <;> rfl
  · simp
theorem uPut_fk {k : D} {b : Addr} {u : Value} {xs : List (D × Addr × Value)} (h : FzL K H w (xs.map (·.1)) (xs.map fun x => .ref x.2.1)) (hk : Fz K H w k (.ref b)) : FzL K H w (dPutK (xs.map (·.1)) k) ((uPut xs k b u).map fun x => .ref x.2.1) := by
  unfold uPut dPutK
  rw [uGet_mem]
  simp only [decide_eq_true_eq]
  split
  · rw [List.map_map]
    have e : xs.map ((fun x : D × Addr × Value => V.ref x.2.1) ∘ fun x => if x.1 = k then (x.1, x.2.1, u) else x) = xs.map fun x => .ref x.2.1 := List.map_congr_left fun x _ => by
      simp only [Function.comp]
      split <;> rfl
    rw [e]
    exact h
  · rw [List.map_append]
    exact h.append (.cons hk .nil)
theorem uPut_vals {k : D} {b : Addr} {v : V} {u : Value} {xs : List (D × Addr × Value)} {vs : List V} (h : Vals vs (xs.map (·.2.2))) (r : RelV v u) : Vals (dPutV (xs.map (·.1)) vs k v) ((uPut xs k b u).map (·.2.2)) := by
  have e : (uPut xs k b u).map (·.2.2) = dPutV (xs.map (·.1)) (xs.map (·.2.2)) k u := by
    unfold uPut dPutV
    rw [uGet_mem]
    simp only [decide_eq_true_eq]
    split
    · rw [List.map_map, zip_map]
      refine List.map_congr_left fun x _ => ?_
      simp only [Function.comp]
      split <;> rfl
    · simp
  rw [e]
  unfold dPutV
  split
  · exact Vals.zipPut r h
  · exact Vals.append h (.cons r .nil)
theorem putK_keys {q : Key} {v : V} {kvs : List (Key × V)} : ((putK kvs q v).map fun p => kD p.1) = dPutK (kvs.map fun p => kD p.1) (kD q) := by
  unfold putK dPutK
  rw [valV_any, valV_mem]
  simp only [decide_eq_true_eq]
  split
  · rw [List.map_map]
    refine List.map_congr_left fun x _ => ?_
    simp only [Function.comp]
    split <;> rfl
  · simp
theorem putK_vals {q : Key} {v : V} {kvs : List (Key × V)} : (putK kvs q v).map (·.2) = dPutV (kvs.map fun p => kD p.1) (kvs.map (·.2)) (kD q) v := by
  unfold putK dPutV
  rw [valV_any, valV_mem]
  simp only [decide_eq_true_eq]
  split
  · rw [List.map_map, zip_map]
    refine List.map_congr_left fun x _ => ?_
    simp only [Function.comp]
    by_cases e : x.1 = q
    · simp [e]
    · have : ¬ kD x.1 = kD q := fun z => e (kD_inj z)
      simp [e, this]
  · simp
def D.sk : D → Bool
  | .int _ => true
  | .str _ => true
  | _ => false
def keyD : D → Option Key
  | .int i => some (.inl i)
  | .str x => some (.inr x)
  | _ => none
theorem keyD_eq {d : D} {q : Key} (e : keyD d = some q) : d = kD q := by
  cases d <;> simp [keyD] at e <;> subst e <;> rfl
theorem keyD_sk {d : D} (h : d.sk = true) : ∃ q, keyD d = some q := by
  cases d <;> simp [D.sk] at h
  · exact ⟨_, rfl⟩
  · exact ⟨_, rfl⟩
theorem sk_tk {d : D} (h : d.sk = true) : d.tk = false := by
  cases d <;> simp [D.sk] at h <;> rfl
theorem kD_sk {q : Key} : (kD q).sk = true := by cases q <;> rfl
theorem ow_dct {o : Own} {k : Nat} {ks ds : List D} {v : V} (h : Ow K H w o k (.dct ks ds) v) : ∃ a, v = .ref a ∧ ((∃ kvs, Rd H a (.dK kvs) ∧ (kvs.map fun p => kD p.1) = ks ∧ FzL K H w ds (kvs.map (·.2))) ∨
    ∃ ob xs vs, H a = some (.ext fun h => h.get? a = some ob) ∧ ExD ob a xs ∧ xs.map (·.1) = ks ∧ FzL K H w ks (xs.map fun x => .ref x.2.1) ∧ Vals vs (xs.map (·.2.2)) ∧ FzL K H w ds vs) := by
  cases h with
  | fz h => cases h with
    | dct h n e t => exact ⟨_, rfl, .inl ⟨_, h, e, t⟩⟩
    | dcu h n x e q r t => exact ⟨_, rfl, .inr ⟨_, _, _, h, x, e, q, r, t⟩⟩
  | dct h n e t => exact ⟨_, rfl, .inl ⟨_, .inl h, e, t⟩⟩
  | dcu h n x e q r t => exact ⟨_, rfl, .inr ⟨_, _, _, h, x, e, q, r, t⟩⟩
theorem exd_tk {ob : Obj} {a : Addr} {xs : List (D × Addr × Value)} {ks : List D} (h : ExD ob a xs) (e : xs.map (·.1) = ks) : ks ≠ [] ∧ ∀ k ∈ ks, k.tk = true := by
  obtain ⟨_, _, _, e4, e5, _⟩ := h
  subst e
  refine ⟨fun z => e4 (List.map_eq_nil_iff.mp z), fun k hk => ?_⟩
  obtain ⟨x, hx, rfl⟩ := List.mem_map.mp hk
  exact e5 x hx
theorem exd_not {ob : Obj} {a : Addr} {xs : List (D × Addr × Value)} {ks : List D} (h : ExD ob a xs) (e : xs.map (·.1) = ks) : ks.all D.sk = false := by
  obtain ⟨h1, h2⟩ := exd_tk h e
  cases ks with
  | nil => exact absurd rfl h1
  | cons k r =>
    have := h2 k (List.mem_cons_self ..)
    cases q : k.sk with
    | false => simp [q]
    | true => rw [sk_tk q] at this; cases this
theorem ow_dctS {o : Own} {k : Nat} {ks ds : List D} {v : V} (hs : ks.all D.sk = true) (h : Ow K H w o k (.dct ks ds) v) : ∃ a kvs, v = .ref a ∧ Rd H a (.dK kvs) ∧ (kvs.map fun p => kD p.1) = ks ∧ FzL K H w ds (kvs.map (·.2)) := by
  obtain ⟨a, e, ⟨kvs, h1, h2, h3⟩ | ⟨ob, xs, vs, h1, h2, h3, _⟩⟩ := ow_dct h
  · exact ⟨a, kvs, e, h1, h2, h3⟩
  · rw [exd_not h2 h3] at hs; cases hs
end
section
variable {X : Cx} {H : Hp} {w : OM} {o o' : Own} {k k' : Nat} {ks ds : List D} {c : D} {v y : V}
theorem uat_of {a : Addr} {ob : Obj} {xs : List (D × Addr × Value)} (h1 : H a = some (.ext fun h => h.get? a = some ob)) (h2 : ExD ob a xs) (h3 : xs.map (·.1) = ks) (h4 : FzL X.K H w ks (xs.map fun x => .ref x.2.1)) : UAt X H a xs := by
  refine ⟨ob, h1, h2, fun x hx => ?_⟩
  have htk := h2.2.2.2.2.1
  have key : ∀ {xs : List (D × Addr × Value)} {ks : List D}, xs.map (·.1) = ks → FzL X.K H w ks (xs.map fun x => .ref x.2.1) → ∀ x ∈ xs, Fz X.K H w x.1 (.ref x.2.1) := by
    intro xs
    induction xs with
    | nil => intro ks _ _ x hx; cases hx
    | cons z r ih =>
      intro ks e f x hx
      subst e
      cases f with
      | cons f1 f2 =>
        rcases List.mem_cons.mp hx with rfl | hx
        · exact f1
        · exact ih rfl f2 x hx
  exact (key h3 h4 x hx).nkv (D.tk_kk (htk x hx))
/-- a dict whose keys are tuples, and a tuple -/
theorem ow_dctU (hs : ks.all D.tk = true) (h : Ow X.K H w o k (.dct ks ds) v) : ∃ a xs vs, v = .ref a ∧ UAt0 X H a xs ∧ xs.map (·.1) = ks ∧ Vals vs (xs.map (·.2.2)) ∧ FzL X.K H w ds vs := by
  obtain ⟨a, e, ⟨kvs, h1, h2, h3⟩ | ⟨ob, xs, vs, h1, h2, h3, h4, h5, h6⟩⟩ := ow_dct h
  · have : kvs = [] := by
      cases kvs with
      | nil => rfl
      | cons p r =>
        subst h2
        have : (kD p.1).tk = true := by simpa using (List.all_eq_true.mp hs) (kD p.1) (by simp)
        rw [sk_tk kD_sk] at this
        cases this
    subst this
    subst h2
    cases h3
    exact ⟨a, [], [], e, .inr ⟨rfl, h1⟩, rfl, .nil, .nil⟩
  · exact ⟨a, xs, vs, e, .inl (uat_of h1 h2 h3 h4), h3, h5, h6⟩
theorem ow_tk (hk : c.tk = true) (h : Ow X.K H w o k c y) : ∃ b, y = .ref b ∧ NkV X H c (.ref b) ∧ Fz X.K H w c y := by
  cases c <;> simp [D.tk] at hk
  cases h with
  | fz h => cases h with
    | tup h1 h2 => exact ⟨_, rfl, (Fz.tup h1 h2).nkv (n := 8) (by simpa [D.kk] using hk), .tup h1 h2⟩
end
end
end Z

/-! Z: in, calls of built-ins, subscripts, displays. -/
namespace Z
open PySem PySem.Spec PyProof.Rows L2
theorem D.pyL_map : ∀ l : List D, D.pyL l = l.map D.py
  | [] => rfl
  | d :: r => by rw [D.pyL, D.pyL_map r, List.map_cons]
theorem any_py (d : D) (l : List D) : ((D.pyL l).any fun z => PyData.eqv z d.py) = l.any fun z => z.eqv d := by
  rw [D.pyL_map, List.any_map]
  rfl
section
variable {X : Cx}
def rInT (K : PySem.W.Frag) : R2 := fun x y H Q => ∃ d ds, Dp K H x d ∧ Dp K H y (.tuple ds) ∧ SeqAt.shaped d = true ∧ SeqAt.shaped (.tuple ds) = true ∧ Q (.bl (ds.any fun z => PyData.eqv z d)) H
def rNotInT (K : PySem.W.Frag) : R2 := fun x y H Q => ∃ d ds, Dp K H x d ∧ Dp K H y (.tuple ds) ∧ SeqAt.shaped d = true ∧ SeqAt.shaped (.tuple ds) = true ∧ Q (.bl (!ds.any fun z => PyData.eqv z d)) H
theorem op_inT (hu : X.A.units + 65 < cLine) : OpR X (compareOp .In) (rInT X.K) := by
  intro pins s σ H x y v u Q I rx ry h
  obtain ⟨d, ds, hd, he, sd, se, q⟩ := h
  obtain ⟨as, r1⟩ := Dp.reads I d x v hd rx
  obtain ⟨bs, r2⟩ := Dp.reads I (.tuple ds) y u he ry
  exact SeqAt.in_tuple_reads r2 r1 (SeqAt.canLay_of_shaped se) (SeqAt.canLay_of_shaped sd) (room_in_shaped sd hu) ⟨.bl _, H, I, rfl, q⟩
theorem op_notInT (hu : X.A.units + 65 < cLine) : OpR X (compareOp .NotIn) (rNotInT X.K) := by
  intro pins s σ H x y v u Q I rx ry h
  obtain ⟨d, ds, hd, he, sd, se, q⟩ := h
  obtain ⟨as, r1⟩ := Dp.reads I d x v hd rx
  obtain ⟨bs, r2⟩ := Dp.reads I (.tuple ds) y u he ry
  exact SeqAt.notIn_tuple_reads r2 r1 (SeqAt.canLay_of_shaped se) (SeqAt.canLay_of_shaped sd) (room_in_shaped sd hu) ⟨.bl _, H, I, rfl, q⟩
def sign? (x : Str) : Option Nat := match x.cps.toList with
  | [c] => some c
  | _ => none
theorem sign?_eq {x : Str} {c : Nat} (h : sign? x = some c) : x = ⟨#[c]⟩ := by
  obtain ⟨a⟩ := x
  unfold sign? at h
  have h' : (match a.toList with | [c] => some c | _ => none) = some c := h
  split at h'
  · rename_i e
    cases h'
    have : a = #[c] := by rw [← Array.toArray_toList (xs := a), e]
    rw [this]
  · cases h'
/-- x in y -/
def inB (x y : D) : R Bool := match y with
  | .tup l => if x.okd 60 && (D.tup l).okd 60 then .ok (l.any fun z => z.eqv x) else .bad
  | .lst l => if x.okd 60 && (D.lst l).okd 60 then .ok (l.any fun z => z.eqv x) else .bad
  | .str z => match x with
    | .str c => match sign? c with
      | some n => .ok (decide (n ∈ z.cps.toList))
      | none => .bad
    | _ => .bad
  | .dct ks _ => if (x.sk && ks.all D.sk) || (x.tk && ks.all D.tk) then .ok (decide (x ∈ ks)) else .bad
  | _ => .bad
def fIn (neg : Bool) : List Cell → R Cell
  | [c, e] => do
    let b ← inB c.d e.d
    R.ok (Cell.fz (.bl (neg ^^ b)))
  | _ => .bad
/-- is the key y in the dict x -/
def DIn (X : Cx) (H : Hp) (y x : V) (b : Bool) : Prop := (∃ a kvs q, x = .ref a ∧ Rd H a (.dK kvs) ∧ y = kV q ∧ b = (valV kvs q).isSome) ∨ ∃ a b' xs k, x = .ref a ∧ y = .ref b' ∧ UAt0 X H a xs ∧ k.tk = true ∧ NkV X H k (.ref b') ∧ b = (uGet xs k).isSome
def rInU (X : Cx) : R2 := fun y x H Q => ∃ b, DIn X H y x b ∧ Q (.bl b) H
def rNotInU (X : Cx) : R2 := fun y x H Q => ∃ b, DIn X H y x b ∧ Q (.bl (!b)) H
theorem op_inU (hu : X.A.units + 65 < cLine) : OpR X (compareOp .In) (rInU X) := by
  intro pins s σ H y x u v Q I ry rx h
  obtain ⟨b, ⟨a, kvs, q, rfl, hr, rfl, rfl⟩ | ⟨a, b', xs, k, rfl, rfl, hr, hk, kv, rfl⟩, hq⟩ := h
  · cases (show v = Value.ref a from rx)
    exact d_in (by omega) I (.inl ⟨kvs, q, hr, rfl, rfl⟩) ry fun s' I' => ⟨.bl _, H, I', rfl, hq⟩
  · cases (show v = Value.ref a from rx)
    cases (show u = Value.ref b' from ry)
    exact u_in hu I hr hk kv fun s' I' => ⟨.bl _, H, I', rfl, hq⟩
theorem op_notInU (hu : X.A.units + 65 < cLine) : OpR X (compareOp .NotIn) (rNotInU X) := by
  intro pins s σ H y x u v Q I ry rx h
  obtain ⟨b, ⟨a, kvs, q, rfl, hr, rfl, rfl⟩ | ⟨a, b', xs, k, rfl, rfl, hr, hk, kv, rfl⟩, hq⟩ := h
  · cases (show v = Value.ref a from rx)
    exact d_notIn (by omega) I (.inl ⟨kvs, q, hr, rfl, rfl⟩) ry fun s' I' => ⟨.bl _, H, I', rfl, hq⟩
  · cases (show v = Value.ref a from rx)
    cases (show u = Value.ref b' from ry)
    exact u_notIn hu I hr hk kv fun s' I' => ⟨.bl _, H, I', rfl, hq⟩
def rInAll (X : Cx) : R2 := fun x y H Q => rInT X.K x y H Q ∨ rInD X.K x y H Q ∨ (∃ (c : Nat) (z : Str), x = .str ⟨#[c]⟩ ∧ y = .str z ∧ Q (.bl (decide (c ∈ z.cps.toList))) H) ∨ rInU X x y H Q
def rNotInAll (X : Cx) : R2 := fun x y H Q => rNotInT X.K x y H Q ∨ rNotInD X.K x y H Q ∨ (∃ (c : Nat) (z : Str), x = .str ⟨#[c]⟩ ∧ y = .str z ∧ Q (.bl (!decide (c ∈ z.cps.toList))) H) ∨ rNotInU X x y H Q
theorem op_inAll (hu : X.A.units + 65 < cLine) : OpR X (compareOp .In) (rInAll X) := (op_inT hu).or ((op_inD hu).or (op_in_sign.or (op_inU hu)))
theorem op_notInAll (hu : X.A.units + 65 < cLine) : OpR X (compareOp .NotIn) (rNotInAll X) := (op_notInT hu).or ((op_notInD hu).or (op_notIn_sign.or (op_notInU hu)))
theorem keyD_ow {K : PySem.W.Frag} {H : Hp} {w : OM} {o : Own} {k : Nat} {d : D} {v : V} {q : Key} (e : keyD d = some q) (h : Ow K H w o k d v) : v = kV q := by
  cases d with
  | int i => cases e; exact ow_int h
  | str x => cases e; exact ow_str h
  | _ => cases e
theorem inB_ok {H : Hp} {w : OM} {c e : Cell} {x y : V} {o o' : Own} {b : Bool} (h1 : Ow X.K H w o c.k c.d x) (h2 : Ow X.K H w o' e.k e.d y) (h : inB c.d e.d = .ok b) :
    (∃ d ds, Dp X.K H x d ∧ Dp X.K H y (.tuple ds) ∧ SeqAt.shaped d = true ∧ SeqAt.shaped (.tuple ds) = true ∧ (ds.any fun z => PyData.eqv z d) = b) ∨
    (∃ d ds, Dp X.K H x d ∧ Dp X.K H y (.list ds) ∧ SeqAt.shaped d = true ∧ SeqAt.shaped (.list ds) = true ∧ (ds.any fun z => PyData.eqv z d) = b) ∨
    (∃ (c : Nat) (z : Str), x = .str ⟨#[c]⟩ ∧ y = .str z ∧ decide (c ∈ z.cps.toList) = b) ∨ DIn X H x y b := by
  obtain ⟨d1, k1⟩ := c
  obtain ⟨d2, k2⟩ := e
  simp only at h h1 h2
  unfold inB at h
  split at h
  · split at h
    · rename_i l hc
      cases h
      rw [Bool.and_eq_true] at hc
      exact .inl ⟨_, _, h1.dp hc.1, by have := h2.dp hc.2; rw [D.py] at this; exact this, D.okd_shaped hc.1, by have := D.okd_shaped hc.2; rw [D.py] at this; exact this, any_py _ _⟩
    · cases h
  · split at h
    · rename_i l hc
      cases h
      rw [Bool.and_eq_true] at hc
      exact .inr (.inl ⟨_, _, h1.dp hc.1, by have := h2.dp hc.2; rw [D.py] at this; exact this, D.okd_shaped hc.1, by have := D.okd_shaped hc.2; rw [D.py] at this; exact this, any_py _ _⟩)
    · cases h
  · split at h
    · split at h
      · rename_i hs
        cases h
        cases ow_str h1
        cases ow_str h2
        rw [sign?_eq hs]
        exact .inr (.inr (.inl ⟨_, _, rfl, rfl, rfl⟩))
      · cases h
    · cases h
  · split at h
    · rename_i ks ds hc
      cases h
      rw [Bool.or_eq_true, Bool.and_eq_true, Bool.and_eq_true] at hc
      refine .inr (.inr (.inr ?_))
      rcases hc with ⟨hs, hk⟩ | ⟨hs, hk⟩
      · obtain ⟨a, kvs, rfl, hr, e, _⟩ := ow_dctS hk h2
        obtain ⟨q, hq⟩ := keyD_sk hs
        refine .inl ⟨a, kvs, q, rfl, hr, keyD_ow hq h1, ?_⟩
        rw [valV_mem, e, keyD_eq hq]
      · obtain ⟨a, xs, vs, rfl, hu, e, _, _⟩ := ow_dctU hk h2
        obtain ⟨b', rfl, kv, _⟩ := ow_tk hs h1
        refine .inr ⟨a, b', xs, _, rfl, rfl, hu, hs, kv, ?_⟩
        rw [uGet_mem, e]
    · cases h
  · cases h
theorem s_in : CallS X (r2L (rInAll X)) (fIn false) := s_scalar fun K H w cs vs c Q hK ow e => by
  subst hK
  unfold fIn at e
  split at e
  · obtain ⟨b, e1, e⟩ := R.of_bind e
    cases e
    obtain ⟨v, u, o, q, rfl, h1, h2⟩ := ow.two
    refine ⟨_, .bl b, rfl, by simp [isSc], fun q => ?_⟩
    rcases inB_ok h1 h2 e1 with ⟨d, ds, a1, a2, a3, a4, rfl⟩ | ⟨d, ds, a1, a2, a3, a4, rfl⟩ | ⟨c, z, rfl, rfl, rfl⟩ | hd
    · exact .inl ⟨d, ds, a1, a2, a3, a4, q⟩
    · exact .inr (.inl ⟨d, ds, a1, a2, a3, a4, q⟩)
    · exact .inr (.inr (.inl ⟨c, z, rfl, rfl, q⟩))
    · exact .inr (.inr (.inr ⟨b, hd, q⟩))
  · cases e
theorem s_notIn : CallS X (r2L (rNotInAll X)) (fIn true) := s_scalar fun K H w cs vs c Q hK ow e => by
  subst hK
  unfold fIn at e
  split at e
  · obtain ⟨b, e1, e⟩ := R.of_bind e
    cases e
    obtain ⟨v, u, o, q, rfl, h1, h2⟩ := ow.two
    refine ⟨_, .bl (!b), rfl, by simp [isSc], fun q => ?_⟩
    rcases inB_ok h1 h2 e1 with ⟨d, ds, a1, a2, a3, a4, rfl⟩ | ⟨d, ds, a1, a2, a3, a4, rfl⟩ | ⟨c, z, rfl, rfl, rfl⟩ | hd
    · exact .inl ⟨d, ds, a1, a2, a3, a4, q⟩
    · exact .inr (.inl ⟨d, ds, a1, a2, a3, a4, q⟩)
    · exact .inr (.inr (.inl ⟨c, z, rfl, rfl, q⟩))
    · exact .inr (.inr (.inr ⟨b, hd, q⟩))
  · cases e

/-! ### calls of built-ins -/
theorem sa_callB {id : String} {f : List Cell → R Cell} {r : List V → Hp → VK → Prop} {x : Str} {e : Expr} {es : List Expr} {ms : List AE} {p pos : Pos} (hc : CallR X (.builtin id) r) (hs : CallS X r f) (hm : X.mg x = none) (hv : bootBuiltins x = some (.builtin id)) (ha : SAs X (e :: es) ms)
    (hg : Gl X x := by rfl) (hn : x ≠ "__name__" := by decide) (hdb : (x == ("__debug__" : Str)) = false := by decide)
    (he : starEach (e :: es) X.env = (false, eval e X.env) :: starEach es X.env := by rfl) (hpl : (backTo pos (starEach es X.env)).any (·.1) = false := by rfl) : SA X (.Call (.Name x p) (e :: es) [] pos) (mPrim f ms) :=
  sa_prim hs ha fun _ q => pe_callB hc hg hm hv q hn hdb he hpl
theorem sa_callTy {T : String} {f : List Cell → R Cell} {r : List V → Hp → VK → Prop} {x : Str} {e : Expr} {es : List Expr} {ms : List AE} {p pos : Pos} (hc : CallR X (.type T) r) (hs : CallS X r f) (hm : X.mg x = none) (hv : bootBuiltins x = some (.type T)) (ha : SAs X (e :: es) ms)
    (hg : Gl X x := by rfl) (hn : x ≠ "__name__" := by decide) (hdb : (x == ("__debug__" : Str)) = false := by decide)
    (he : starEach (e :: es) X.env = (false, eval e X.env) :: starEach es X.env := by rfl) (hpl : (backTo pos (starEach es X.env)).any (·.1) = false := by rfl) : SA X (.Call (.Name x p) (e :: es) [] pos) (mPrim f ms) :=
  sa_prim hs ha fun _ q => pe_callTy hc hg hm hv q hn hdb he hpl

/-- len -/
def fLen : List Cell → R Cell
  | [⟨.tup l, _⟩] => .ok (Cell.fz (.int l.length))
  | [⟨.lst l, _⟩] => .ok (Cell.fz (.int l.length))
  | [⟨.scr l, _⟩] => .ok (Cell.fz (.int l.length))
  | [⟨.str x, _⟩] => if x.length ≤ 16777216 then .ok (Cell.fz (.int x.length)) else .bad
  | [⟨.dct ks _, _⟩] => if ks.all D.sk then .ok (Cell.fz (.int ks.length)) else .bad
  | _ => .bad
def rLenD : List V → Hp → VK → Prop := fun xs H Q => ∃ d kvs, xs = [.ref d] ∧ Rd H d (.dK kvs) ∧ Q (.int kvs.length) H
theorem call_lenDR : CallR X (.builtin "len") rLenD := by
  intro pins s σ H xs us Q I r h
  obtain ⟨d, kvs, rfl, hd, q⟩ := h
  obtain ⟨u, rfl, rx⟩ := vals1 r
  obtain rfl : u = Value.ref d := rx
  exact d_len I hd fun t s' I' => ⟨.int kvs.length, H, I', ⟨t, rfl⟩, q⟩
def rLenAll (K : PySem.W.Frag) : List V → Hp → VK → Prop := fun xs H Q => (∃ x n, xs = [x] ∧ LenV K x H n ∧ Q (.int n) H) ∨ rLenD xs H Q
theorem call_lenAll : CallR X (.builtin "len") (rLenAll X.K) := by
  intro pins s σ H xs us Q I r h
  rcases h with h | h
  · exact call_len pins s σ H xs us Q I r h
  · exact call_lenDR pins s σ H xs us Q I r h
theorem s_len : CallS X (rLenAll X.K) fLen := s_scalar fun K H w cs vs c Q hK ow e => by
  subst hK
  unfold fLen at e
  split at e
  · rename_i l _
    cases e
    obtain ⟨v, o, rfl, h1⟩ := ow.one
    obtain ⟨a, xs, rfl, ta, fa⟩ := ow_tup h1
    exact ⟨_, .int l.length, rfl, by simp [isSc], fun q => .inl ⟨_, _, rfl, .inr ⟨_, ta.sq, fa.length⟩, q⟩⟩
  · rename_i l _
    cases e
    obtain ⟨v, o, rfl, h1⟩ := ow.one
    obtain ⟨a, xs, rfl, ta, la, fa⟩ := ow_lst h1
    exact ⟨_, .int l.length, rfl, by simp [isSc], fun q => .inl ⟨_, _, rfl, .inl ⟨_, .inl (.inl ta), la⟩, q⟩⟩
  · rename_i l _
    cases e
    obtain ⟨v, o, rfl, h1⟩ := ow.one
    obtain ⟨a, xs, rfl, ta, fa⟩ := ow_scr h1
    exact ⟨_, .int l.length, rfl, by simp [isSc], fun q => .inl ⟨_, _, rfl, .inl ⟨_, ta, fa.length⟩, q⟩⟩
  · split at e
    · rename_i x _ hx
      cases e
      obtain ⟨v, o, rfl, h1⟩ := ow.one
      cases ow_str h1
      exact ⟨_, .int x.length, rfl, by simp [isSc], fun q => .inl ⟨_, _, rfl, ⟨by rw [sizeLine_eq]; exact hx, rfl⟩, q⟩⟩
    · cases e
  · rename_i ks _ _
    split at e
    · rename_i hsk
      cases e
      obtain ⟨v, o, rfl, h1⟩ := ow.one
      obtain ⟨a, kvs, rfl, ha, hk, fa⟩ := ow_dctS hsk h1
      have el : ks.length = kvs.length := by rw [← hk, List.length_map]
      exact ⟨_, .int ks.length, rfl, by simp [isSc], fun q => .inr ⟨_, _, rfl, ha, by rw [← el]; exact q⟩⟩
    · cases e
  · cases e
/-- tuple(x) -/
def fTuple : List Cell → R Cell
  | [⟨.tup l, _⟩] => .ok (Cell.fz (.tup l))
  | [⟨.lst l, k⟩] => if k ≤ 1 then .ok (Cell.fz (.tup l)) else .bad
  | _ => .bad
theorem s_tuple : CallS X (fun xs H Q => ∃ p ys, xs = [.ref p] ∧ ((SqL X.K H p ys ∧ ∀ l o, H l = none → o.dict = none → Q (.ref l) (upd H l (.frz o (.tup ys)))) ∨ (SqT X.K H p ys ∧ Q (.ref p) H))) fTuple := by
  intro n H w σ ρ cs vs c Q ok ow e k
  unfold fTuple at e
  split at e
  · cases e
    obtain ⟨v, o, rfl, h1⟩ := ow.one
    obtain ⟨a, xs, rfl, ta, fa⟩ := ow_tup h1
    exact ⟨_, _, rfl, .inr ⟨ta.sq, k _ H w ok Step.refl (.fz (.tup ta fa))⟩⟩
  · split at e
    · rename_i hc
      cases e
      obtain ⟨v, o, rfl, h1⟩ := ow.one
      obtain ⟨a, xs, rfl, ta, la, fa⟩ := ow_lst h1
      refine ⟨_, xs, rfl, .inl ⟨.inl (.inl ta), fun p ob hp hd => ?_⟩⟩
      exact k _ _ (w.put p .no) (ok.new hp .no) (Step.new hp) (.fz (.tup (.inl ⟨⟨ob, upd_same, hd⟩, OM.put_same⟩) ((fa hc).step (Kp.new hp .no))))
    · cases e
  · cases e
/-- list(x) -/
def fList : List Cell → R Cell
  | [⟨.tup l, _⟩] => .ok ⟨.lst l, 1⟩
  | [⟨.lst l, k⟩] => if k ≤ 1 then .ok ⟨.lst l, 1⟩ else .bad
  | [⟨.scr l, _⟩] => .ok ⟨.lst l, 1⟩
  | _ => .bad
theorem s_list : CallS X (fun xs H Q => ∃ p ys, xs = [.ref p] ∧ (SqL X.K H p ys ∨ SqT X.K H p ys) ∧ ∀ l, H l = none → Q (.ref l) (upd H l (.lst ys))) fList := by
  intro n H w σ ρ cs vs c Q ok ow e k
  unfold fList at e
  split at e
  · cases e
    obtain ⟨v, o, rfl, h1⟩ := ow.one
    obtain ⟨a, xs, rfl, ta, fa⟩ := ow_tup h1
    refine ⟨_, xs, rfl, .inr ta.sq, fun p hp => ?_⟩
    exact k _ _ (w.put p (.tm n)) (ok.new hp _) (Step.new hp) (.lst upd_same OM.put_same (fa.step (Kp.new hp .no)))
  · split at e
    · rename_i hc
      cases e
      obtain ⟨v, o, rfl, h1⟩ := ow.one
      obtain ⟨a, xs, rfl, ta, la, fa⟩ := ow_lst h1
      refine ⟨_, xs, rfl, .inl (.inl (.inl ta)), fun p hp => ?_⟩
      exact k _ _ (w.put p (.tm n)) (ok.new hp _) (Step.new hp) (.lst upd_same OM.put_same ((fa hc).step (Kp.new hp .no)))
    · cases e
  · cases e
    obtain ⟨v, o, rfl, h1⟩ := ow.one
    obtain ⟨a, xs, rfl, ta, fa⟩ := ow_scr h1
    refine ⟨_, xs, rfl, .inl ta, fun p hp => ?_⟩
    exact k _ _ (w.put p (.tm n)) (ok.new hp _) (Step.new hp) (.lst upd_same OM.put_same (fa.step (Kp.new hp .no)))
  · cases e
/-- int(x) of an int or a bool -/
def fInt : List Cell → R Cell
  | [⟨.int i, _⟩] => .ok (Cell.fz (.int i))
  | [⟨.bl b, _⟩] => .ok (Cell.fz (.int (if b then 1 else 0)))
  | _ => .bad
theorem s_int : CallS X (fun xs H Q => (∃ i, xs = [.int i] ∧ Q (.int i) H) ∨ ∃ k, xs = [.bl k] ∧ Q (.int (if k then 1 else 0)) H) fInt := s_scalar fun K H w cs vs c Q hK ow e => by
  unfold fInt at e
  split at e
  · rename_i i _
    cases e
    obtain ⟨v, o, rfl, h1⟩ := ow.one
    cases ow_int h1
    exact ⟨_, .int i, rfl, by simp [isSc], fun q => .inl ⟨_, rfl, q⟩⟩
  · rename_i b _
    cases e
    obtain ⟨v, o, rfl, h1⟩ := ow.one
    cases ow_bl h1
    exact ⟨_, .int (if b then 1 else 0), rfl, by simp [isSc], fun q => .inr ⟨_, rfl, q⟩⟩
  · cases e
def fAbs : List Cell → R Cell
  | [⟨.int i, _⟩] => .ok (Cell.fz (.int (if i < 0 then -i else i)))
  | _ => .bad
theorem s_abs : CallS X (fun xs H Q => ∃ i, xs = [.int i] ∧ Q (.int (if i < 0 then -i else i)) H) fAbs := s_scalar fun K H w cs vs c Q hK ow e => by
  unfold fAbs at e
  split at e
  · rename_i i _
    cases e
    obtain ⟨v, o, rfl, h1⟩ := ow.one
    cases ow_int h1
    exact ⟨_, .int (if i < 0 then -i else i), rfl, by simp [isSc], fun q => ⟨_, rfl, q⟩⟩
  · cases e
/-! #### lists of ints, of bools -/
def asInts : List D → Option (List Int)
  | [] => some []
  | .int i :: r => match asInts r with
    | some is => some (i :: is)
    | none => none
  | _ :: _ => none
theorem asInts_map : ∀ ns : List Int, asInts (ns.map D.int) = some ns
  | [] => rfl
  | n :: ns => by rw [List.map_cons, asInts, asInts_map ns]
theorem asInts_eq : ∀ {l : List D} {ns : List Int}, asInts l = some ns → l = ns.map D.int
  | [], ns, h => by cases h; rfl
  | d :: r, ns, h => by
    cases d with
    | int i =>
      unfold asInts at h
      cases e : asInts r with
      | none => rw [e] at h; cases h
      | some is => rw [e] at h; cases h; rw [asInts_eq e]; rfl
    | _ => cases h
def asBls : List D → Option (List Bool)
  | [] => some []
  | .bl i :: r => match asBls r with
    | some is => some (i :: is)
    | none => none
  | _ :: _ => none
theorem asBls_eq : ∀ {l : List D} {ns : List Bool}, asBls l = some ns → l = ns.map D.bl
  | [], ns, h => by cases h; rfl
  | d :: r, ns, h => by
    cases d with
    | bl i =>
      unfold asBls at h
      cases e : asBls r with
      | none => rw [e] at h; cases h
      | some is => rw [e] at h; cases h; rw [asBls_eq e]; rfl
    | _ => cases h
theorem sq_ints {H : Hp} {w : OM} {c : Cell} {v : V} {o : Own} {l : List D} {ns : List Int} (hk : c.k ≤ 1) (hd : c.d = .lst l) (h : Ow X.K H w o c.k c.d v) (e : asInts l = some ns) : ∃ a, v = .ref a ∧ SqL X.K H a (ns.map V.int) := by
  rw [hd] at h
  obtain ⟨a, xs, rfl, ta, la, fa⟩ := ow_lst h
  have f := fa hk
  rw [asInts_eq e] at f
  rw [f.ints] at ta
  exact ⟨a, rfl, .inl (.inl ta)⟩
theorem sq_bls {H : Hp} {w : OM} {c : Cell} {v : V} {o : Own} {l : List D} {ns : List Bool} (hk : c.k ≤ 1) (hd : c.d = .lst l) (h : Ow X.K H w o c.k c.d v) (e : asBls l = some ns) : ∃ a, v = .ref a ∧ SqL X.K H a (ns.map V.bl) := by
  rw [hd] at h
  obtain ⟨a, xs, rfl, ta, la, fa⟩ := ow_lst h
  have f := fa hk
  rw [asBls_eq e] at f
  rw [f.bls] at ta
  exact ⟨a, rfl, .inl (.inl ta)⟩
/-- a rule over a list of ints -/
def onInts (g : List Int → R D) : List Cell → R Cell
  | [⟨.lst l, k⟩] => if k ≤ 1 then match asInts l with
      | some ns => do
        let d ← g ns
        R.ok (Cell.fz d)
      | none => .bad
    else .bad
  | _ => .bad
def onBls (g : List Bool → R D) : List Cell → R Cell
  | [⟨.lst l, k⟩] => if k ≤ 1 then match asBls l with
      | some ns => do
        let d ← g ns
        R.ok (Cell.fz d)
      | none => .bad
    else .bad
  | _ => .bad
theorem s_onInts {r : List V → Hp → VK → Prop} {g : List Int → R D} (h : ∀ H a ns d Q, SqL X.K H a (ns.map V.int) → g ns = .ok d → ∃ v, isSc d v = true ∧ (Q v H → r [.ref a] H Q)) : CallS X r (onInts g) := s_scalar fun K H w cs vs c Q hK ow e => by
  subst hK
  unfold onInts at e
  split at e
  · split at e
    · rename_i hk
      split at e
      · rename_i ns hn
        obtain ⟨d, e1, e⟩ := R.of_bind e
        cases e
        obtain ⟨v, o, rfl, h1⟩ := ow.one
        obtain ⟨a, rfl, sq⟩ := sq_ints hk rfl h1 hn
        obtain ⟨v, hs, q⟩ := h H a ns d Q sq e1
        exact ⟨d, v, rfl, hs, q⟩
      · cases e
    · cases e
  · cases e
theorem s_onBls {r : List V → Hp → VK → Prop} {g : List Bool → R D} (h : ∀ H a ns d Q, SqL X.K H a (ns.map V.bl) → g ns = .ok d → ∃ v, isSc d v = true ∧ (Q v H → r [.ref a] H Q)) : CallS X r (onBls g) := s_scalar fun K H w cs vs c Q hK ow e => by
  subst hK
  unfold onBls at e
  split at e
  · split at e
    · rename_i hk
      split at e
      · rename_i ns hn
        obtain ⟨d, e1, e⟩ := R.of_bind e
        cases e
        obtain ⟨v, o, rfl, h1⟩ := ow.one
        obtain ⟨a, rfl, sq⟩ := sq_bls hk rfl h1 hn
        obtain ⟨v, hs, q⟩ := h H a ns d Q sq e1
        exact ⟨d, v, rfl, hs, q⟩
      · cases e
    · cases e
  · cases e
def maxL : Int → List Int → Int
  | m, [] => m
  | m, x :: r => maxL (if m < x then x else m) r
def minL : Int → List Int → Int
  | m, [] => m
  | m, x :: r => minL (if x < m then x else m) r
theorem maxL_mem : ∀ (r : List Int) (m : Int), maxL m r ∈ m :: r
  | [], m => by simp [maxL]
  | x :: r, m => by
    unfold maxL
    have h := maxL_mem r (if m < x then x else m)
    split at h <;> rename_i hx
    · rw [if_pos hx]; rcases List.mem_cons.mp h with h | h
      · simp [h]
      · simp [h]
    · rw [if_neg hx]; rcases List.mem_cons.mp h with h | h
      · simp [h]
      · simp [h]
theorem maxL_ge : ∀ (r : List Int) (m : Int), ∀ y ∈ m :: r, y ≤ maxL m r
  | [], m, y, h => by simp at h; subst h; exact Int.le_refl _
  | x :: r, m, y, h => by
    unfold maxL
    have ih := maxL_ge r (if m < x then x else m)
    have h0 := ih _ (List.mem_cons_self ..)
    rcases List.mem_cons.mp h with h | h
    · subst h; split at h0 <;> rename_i hx
      · rw [if_pos hx]; omega
      · rw [if_neg hx]; exact h0
    · rcases List.mem_cons.mp h with h | h
      · subst h; split at h0 <;> rename_i hx
        · rw [if_pos hx]; exact h0
        · rw [if_neg hx]; omega
      · exact ih y (List.mem_cons_of_mem _ h)
theorem minL_mem : ∀ (r : List Int) (m : Int), minL m r ∈ m :: r
  | [], m => by simp [minL]
  | x :: r, m => by
    unfold minL
    have h := minL_mem r (if x < m then x else m)
    split at h <;> rename_i hx
    · rw [if_pos hx]; rcases List.mem_cons.mp h with h | h
      · simp [h]
      · simp [h]
    · rw [if_neg hx]; rcases List.mem_cons.mp h with h | h
      · simp [h]
      · simp [h]
theorem minL_le : ∀ (r : List Int) (m : Int), ∀ y ∈ m :: r, minL m r ≤ y
  | [], m, y, h => by simp at h; subst h; exact Int.le_refl _
  | x :: r, m, y, h => by
    unfold minL
    have ih := minL_le r (if x < m then x else m)
    have h0 := ih _ (List.mem_cons_self ..)
    rcases List.mem_cons.mp h with h | h
    · subst h; split at h0 <;> rename_i hx
      · rw [if_pos hx]; omega
      · rw [if_neg hx]; exact h0
    · rcases List.mem_cons.mp h with h | h
      · subst h; split at h0 <;> rename_i hx
        · rw [if_pos hx]; exact h0
        · rw [if_neg hx]; omega
      · exact ih y (List.mem_cons_of_mem _ h)
/-- max(xs) of a list, max(i, j) -/
def fMax : List Cell → R Cell
  | [⟨.int i, _⟩, ⟨.int j, _⟩] => .ok (Cell.fz (.int (if j > i then j else i)))
  | cs => onInts (fun ns => match ns with
    | [] => .bad
    | x :: r => .ok (.int (maxL x r))) cs
def fMin : List Cell → R Cell
  | [⟨.int i, _⟩, ⟨.int j, _⟩] => .ok (Cell.fz (.int (if j < i then j else i)))
  | cs => onInts (fun ns => match ns with
    | [] => .bad
    | x :: r => .ok (.int (minL x r))) cs
theorem s_max : CallS X (fun xs H Q => (∃ i j, xs = [.int i, .int j] ∧ Q (.int (if j > i then j else i)) H) ∨ rMax X.K xs H Q) fMax := by
  intro n H w σ ρ cs vs c Q ok ow e k
  unfold fMax at e
  split at e
  · cases e
    obtain ⟨v, u, o, q, rfl, h1, h2⟩ := ow.two
    cases ow_int h1
    cases ow_int h2
    exact .inl ⟨_, _, rfl, k _ H w ok Step.refl (.fz (.int _))⟩
  · refine .inr (s_onInts (X := X) (r := rMax X.K) (fun H a ns d Q sq e => ?_) n H w σ ρ cs vs c Q ok ow e k)
    split at e
    · cases e
    · rename_i x r
      cases e
      refine ⟨.int (maxL x r), by simp [isSc], fun q => ⟨a, _, rfl, sq, by simp, fun m hm hle => ?_⟩⟩
      have h1 := maxL_ge r x m hm
      have h2 := hle _ (maxL_mem r x)
      have : m = maxL x r := by omega
      rw [this]; exact q
theorem s_min : CallS X (fun xs H Q => (∃ i j, xs = [.int i, .int j] ∧ Q (.int (if j < i then j else i)) H) ∨ rMin X.K xs H Q) fMin := by
  intro n H w σ ρ cs vs c Q ok ow e k
  unfold fMin at e
  split at e
  · cases e
    obtain ⟨v, u, o, q, rfl, h1, h2⟩ := ow.two
    cases ow_int h1
    cases ow_int h2
    exact .inl ⟨_, _, rfl, k _ H w ok Step.refl (.fz (.int _))⟩
  · refine .inr (s_onInts (X := X) (r := rMin X.K) (fun H a ns d Q sq e => ?_) n H w σ ρ cs vs c Q ok ow e k)
    split at e
    · cases e
    · rename_i x r
      cases e
      refine ⟨.int (minL x r), by simp [isSc], fun q => ⟨a, _, rfl, sq, by simp, fun m hm hle => ?_⟩⟩
      have h1 := minL_le r x m hm
      have h2 := hle _ (minL_mem r x)
      have : m = minL x r := by omega
      rw [this]; exact q
theorem call_maxAll (hc : X.calm = true) : CallR X (.builtin "max") (fun xs H Q => (∃ i j, xs = [.int i, .int j] ∧ Q (.int (if j > i then j else i)) H) ∨ rMax X.K xs H Q) := (call_max2 hc).or (cr_max hc)
theorem call_minAll (hc : X.calm = true) : CallR X (.builtin "min") (fun xs H Q => (∃ i j, xs = [.int i, .int j] ∧ Q (.int (if j < i then j else i)) H) ∨ rMin X.K xs H Q) := (call_min2 hc).or (cr_min hc)
def fAll : List Cell → R Cell := onBls fun bs => .ok (.bl (bs.all id))
def fAny : List Cell → R Cell := onBls fun bs => .ok (.bl (bs.any id))
theorem s_all : CallS X (rAll X.K) fAll := s_onBls fun H a ns d Q sq e => by
  cases e
  exact ⟨.bl (ns.all id), by simp [isSc], fun q => ⟨a, ns, rfl, sq, q⟩⟩
end
end Z

/-! Z: subscripts, slices, displays, tests. -/
namespace Z
open PySem PySem.Spec PyProof.Rows L2
section
variable {K : PySem.W.Frag} {H : Hp} {w : OM}
theorem atI_fz {ds : List D} {vs : List V} {i : Int} {d : D} (h : FzL K H w ds vs) (e : atI ds i = some d) : ∃ v, atI vs i = some v ∧ Fz K H w d v := by
  unfold atI at e ⊢
  rw [← h.length]
  cases q : ixN ds.length i with
  | none => rw [q] at e; cases e
  | some j =>
    rw [q] at e
    obtain ⟨v, h1, h2⟩ := h.get (i := j) e
    exact ⟨v, h1, h2⟩
end
def fIxS : List Cell → R Cell
  | [⟨.tup l, _⟩, ⟨.int i, _⟩] => match atI l i with
    | some d => .ok (Cell.fz d)
    | none => .bad
  | [⟨.lst l, k⟩, ⟨.int i, _⟩] => if k ≤ 1 then match atI l i with
      | some d => .ok (Cell.fz d)
      | none => .bad
    else .bad
  | [⟨.scr l, _⟩, ⟨.int i, _⟩] => match atI l i with
    | some d => .ok (Cell.fz d)
    | none => .bad
  | [⟨.str z, _⟩, ⟨.int i, _⟩] => if z.length ≤ 16777216 then match atI z.cps.toList i with
      | some c => .ok (Cell.fz (.str ⟨#[c]⟩))
      | none => .bad
    else .bad
  | _ => .bad
def fIxD : List Cell → R Cell
  | [⟨.dct ks ds, _⟩, c] => match keyD c.d with
    | some q => if ks.all D.sk then match dGet ks ds c.d with
      | some d => .ok (Cell.fz d)
      | none => .bad
      else .bad
    | none => .bad
  | _ => .bad
def fIxU : List Cell → R Cell
  | [⟨.dct ks ds, _⟩, c] => if c.d.tk && ks.all D.tk then match dGet ks ds c.d with
    | some d => .ok (Cell.fz d)
    | none => .bad
    else .bad
  | _ => .bad
def fIx : List Cell → R Cell
  | [⟨.dct ks ds, k⟩, c] => if c.d.tk then fIxU [⟨.dct ks ds, k⟩, c] else fIxD [⟨.dct ks ds, k⟩, c]
  | cs => fIxS cs
section
variable {X : Cx}
theorem s_ixS : CallS X (r2L (rIx X.K)) fIxS := by
  intro n H w σ ρ cs vs c Q ok ow e k
  have fin : ∀ {d : D} {v : V}, c = Cell.fz d → Fz X.K H w d v → Q v H := fun e h => by subst e; exact k _ H w ok Step.refl (.fz h)
  unfold fIxS at e
  split at e
  · split at e
    · rename_i hi
      cases e
      obtain ⟨v, u, o, q, rfl, h1, h2⟩ := ow.two
      cases ow_int h2
      obtain ⟨a, xs, rfl, ta, fa⟩ := ow_tup h1
      obtain ⟨z, hz, fz⟩ := atI_fz fa hi
      exact .inr (.inl ⟨a, xs, _, z, rfl, rfl, ta.sq, hz, fin rfl fz⟩)
    · cases e
  · split at e
    · rename_i hk
      split at e
      · rename_i hi
        cases e
        obtain ⟨v, u, o, q, rfl, h1, h2⟩ := ow.two
        cases ow_int h2
        obtain ⟨a, xs, rfl, ta, la, fa⟩ := ow_lst h1
        obtain ⟨z, hz, fz⟩ := atI_fz (fa hk) hi
        exact .inl ⟨a, xs, _, z, rfl, rfl, .inl (.inl ta), hz, fin rfl fz⟩
      · cases e
    · cases e
  · split at e
    · rename_i hi
      cases e
      obtain ⟨v, u, o, q, rfl, h1, h2⟩ := ow.two
      cases ow_int h2
      obtain ⟨a, xs, rfl, ta, fa⟩ := ow_scr h1
      obtain ⟨z, hz, fz⟩ := atI_fz fa hi
      exact .inl ⟨a, xs, _, z, rfl, rfl, ta, hz, fin rfl fz⟩
    · cases e
  · split at e
    · rename_i hl
      split at e
      · rename_i hi
        cases e
        obtain ⟨v, u, o, q, rfl, h1, h2⟩ := ow.two
        cases ow_int h2
        cases ow_str h1
        exact .inr (.inr ⟨_, _, _, rfl, rfl, by rw [sizeLine_eq]; exact hl, hi, fin rfl (.str _)⟩)
      · cases e
    · cases e
  · cases e
theorem s_ixD : CallS X (r2L fun x y H Q => ∃ a v, x = .ref a ∧ DGet H a y (some v) ∧ Q v H) fIxD := by
  intro n H w σ ρ cs vs c Q ok ow e k
  have fin : ∀ {d : D} {v : V}, c = Cell.fz d → Fz X.K H w d v → Q v H := fun e h => by subst e; exact k _ H w ok Step.refl (.fz h)
  unfold fIxD at e
  split at e
  · split at e
    · rename_i hq
      split at e
      · rename_i hsk
        split at e
        · rename_i hd
          cases e
          obtain ⟨v, u, o, q, rfl, h1, h2⟩ := ow.two
          obtain ⟨a, kvs, rfl, ha, hk, fa⟩ := ow_dctS hsk h1
          cases keyD_ow hq h2
          subst hk
          rw [keyD_eq hq] at hd
          obtain ⟨z, hz, fz⟩ := dGet_fz fa _ hd
          exact ⟨a, z, rfl, .inl ⟨kvs, _, ha, rfl, hz.symm⟩, fin rfl fz⟩
        · cases e
      · cases e
    · cases e
  · cases e
def rIxU (X : Cx) : R2 := fun x y H Q => ∃ a b xs k p v, x = .ref a ∧ y = .ref b ∧ UAt0 X H a xs ∧ k.tk = true ∧ NkV X H k (.ref b) ∧ uGet xs k = some p ∧ RelV v p.2 ∧ Q v H
theorem s_ixU : CallS X (r2L (rIxU X)) fIxU := by
  intro n H w σ ρ cs vs c Q ok ow e k
  have fin : ∀ {d : D} {v : V}, c = Cell.fz d → Fz X.K H w d v → Q v H := fun e h => by subst e; exact k _ H w ok Step.refl (.fz h)
  unfold fIxU at e
  split at e
  · split at e
    · rename_i hc
      rw [Bool.and_eq_true] at hc
      split at e
      · rename_i hd
        cases e
        obtain ⟨v, u, o, q, rfl, h1, h2⟩ := ow.two
        obtain ⟨a, xs, ws, rfl, hu, hk, r, fa⟩ := ow_dctU hc.2 h1
        obtain ⟨b, rfl, kv, _⟩ := ow_tk hc.1 h2
        subst hk
        obtain ⟨p, z, hz, rz, fz⟩ := dGet_u fa r _ hd
        exact ⟨a, b, xs, _, p, z, rfl, rfl, hu, hc.1, kv, hz, rz, fin rfl fz⟩
      · cases e
    · cases e
  · cases e
theorem pe_uget {o i : Expr} {td ty : TE} {pos : Pos} (hu : X.A.units + 65 < cLine) (ho : PE X o td) (hi : PE X i ty) (hs : NoSl i) : PE X (.Subscript o i pos) (tOp (rIxU X) td ty) := by
  refine ⟨fun pins s σ H Q I h => ?_⟩
  refine subD_of PySem.F.slot_dict_getitem.lookup hs (thn (ho.run pins s σ H _ I h) fun u s1 ⟨x, H1, I1, rx, q1⟩ => thn (hi.run pins s1 σ H1 _ I1 q1) fun iv s2 ⟨y, H2, I2, ry, a, b, xs, k, p, v, ex, ey, g, hk, kv, hp, rv, q2⟩ => ?_)
  subst ex ey
  obtain rfl : u = Value.ref a := rx
  obtain rfl : iv = Value.ref b := ry
  obtain ⟨_, _, _, hd⟩ := g.dict I2
  exact ⟨hd.typeIs, u_getItem hu I2 g hk kv hp rv fun w' s3 I3 rw' => ⟨v, H2, I3, rw', q2⟩⟩
/-- one of two -/
theorem SA.either {e : Expr} {m1 m2 m : AE} (h1 : SA X e m1) (h2 : SA X e m2) (h : ∀ ρ s ρ', m ρ = .ok (s, ρ') → m1 ρ = .ok (s, ρ') ∨ m2 ρ = .ok (s, ρ')) : SA X e m := by
  obtain ⟨t, p, g⟩ := h1.ex
  obtain ⟨u, q, g'⟩ := h2.ex
  refine ⟨_, PE.or p q, fun n σ H w ρ s ρ' Q ok hm k => ?_⟩
  rcases h ρ s ρ' hm with z | z
  · exact .inl (g n σ H w ρ s ρ' Q ok z k)
  · exact .inr (g' n σ H w ρ s ρ' Q ok z k)
theorem mPrim_either {f g h : List Cell → R Cell} {ms : List AE} (z : ∀ cs, h cs = f cs ∨ h cs = g cs) : ∀ ρ s ρ', mPrim h ms ρ = .ok (s, ρ') → mPrim f ms ρ = .ok (s, ρ') ∨ mPrim g ms ρ = .ok (s, ρ') := by
  intro ρ s ρ' e
  obtain ⟨ss, cs, c, e1, e2, e3, rfl⟩ := mPrim_ok e
  have fin : ∀ f' : List Cell → R Cell, h cs = f' cs → mPrim f' ms ρ = .ok (.v c, ρ') := fun f' q => by
    unfold mPrim
    rw [e1]
    simp only [R.ok_bind]
    rw [e2]
    simp only
    rw [← q, e3]
    rfl
  rcases z cs with z | z
  · exact .inl (fin f z)
  · exact .inr (fin g z)
def fIxDU : List Cell → R Cell
  | [⟨.dct ks ds, k⟩, c] => if c.d.tk then fIxU [⟨.dct ks ds, k⟩, c] else fIxD [⟨.dct ks ds, k⟩, c]
  | _ => .bad
theorem fIxDU_either (cs : List Cell) : fIxDU cs = fIxU cs ∨ fIxDU cs = fIxD cs := by
  unfold fIxDU
  split
  · split
    · exact .inl rfl
    · exact .inr rfl
  · rename_i h
    refine .inl ?_
    unfold fIxU
    split
    · exact absurd rfl (h _ _ _ _)
    · rfl
theorem fIx_either (cs : List Cell) : fIx cs = fIxS cs ∨ fIx cs = fIxDU cs := by
  unfold fIx
  split
  · exact .inr rfl
  · exact .inl rfl
theorem sa_ix {a b : Expr} {ma mb : AE} {pos : Pos} (hu : X.A.units + 65 < cLine) (ha : SA X a ma) (hb : SA X b mb) (hs : PlainIx b := by exact fun _ _ => rfl) : SA X (.Subscript a b pos) (mPrim fIx [ma, mb]) :=
  SA.either (sa_prim2 s_ixS ha hb fun t u p q => pe_ix ix_seq p q hs)
    (SA.either (sa_prim2 s_ixU ha hb fun t u p q => pe_uget hu p q hs) (sa_prim2 s_ixD ha hb fun t u p q => pe_dget (by omega) p q hs) (mPrim_either fIxDU_either)) (mPrim_either fIx_either)

/-! ### slices -/
def cutD (xs : List D) (lo hi : Option Int) : List D := (xs.drop (HT.sIx xs.length 0 lo)).take (HT.sIx xs.length xs.length hi - HT.sIx xs.length 0 lo)
theorem cutD_fz {K : PySem.W.Frag} {H : Hp} {w : OM} {ds : List D} {vs : List V} (h : FzL K H w ds vs) (lo hi : Option Int) : FzL K H w (cutD ds lo hi) (cutV vs lo hi) := by
  unfold cutD cutV
  rw [h.length]
  exact (h.drop _).take _
def fSl (c : Cell) (lo hi : Option Int) : R Cell := match c with
  | ⟨.tup l, _⟩ => .ok (Cell.fz (.tup (cutD l lo hi)))
  | ⟨.lst l, k⟩ => if k ≤ 1 then .ok ⟨.lst (cutD l lo hi), 1⟩ else .bad
  | ⟨.str z, _⟩ => if z.length ≤ 16777216 then .ok (Cell.fz (.str (cutS z lo hi))) else .bad
  | _ => .bad
def evO : Option AE → Env → R (Option Int × Env)
  | none, ρ => .ok (none, ρ)
  | some m, ρ => do
    let (s, ρ1) ← m ρ
    match s.cell ρ1 with
    | some ⟨.int i, _⟩ => R.ok (some i, ρ1)
    | _ => R.bad
structure SPO (X : Cx) (e : Option Expr) (m : Option AE) : Prop where
  ex : ∃ t, PO X e t ∧ ∀ (n : Nat) (σ : L2.St) (H : Hp) (w : OM) (ρ : Env) (o : Option Int) (ρ' : Env) (Q : Option Int → Hp → Prop), Ok X.K H w σ ρ → evO m ρ = .ok (o, ρ') →
    (∀ H' w', Ok X.K H' w' σ ρ' → Step n H w H' w' → Q o H') → t σ H Q
theorem spo_none : SPO X none none := ⟨_, po_none, fun n σ H w ρ o ρ' Q ok h k => by
  cases h
  exact k H w ok Step.refl⟩
theorem spo_some {e : Expr} {m : AE} (h : SA X e m) : SPO X (some e) (some m) := by
  obtain ⟨t, p, g⟩ := h.ex
  refine ⟨_, po_some p, fun n σ H w ρ o ρ' Q ok hm k => ?_⟩
  obtain ⟨⟨s, ρ1⟩, e1, hm⟩ := R.of_bind hm
  dsimp only at hm
  split at hm
  · rename_i i _ hc
    cases hm
    refine g n σ H w ρ s _ _ ok e1 fun v H' w' ok' st sa => ?_
    obtain ⟨o, _, h1⟩ := sa.cell ok' hc
    exact ⟨i, ow_int h1, k H' w' ok' st⟩
  · cases hm
def mSl (a : AE) (lo hi : Option AE) : AE := fun ρ => do
  let (s, ρ1) ← a ρ
  let (l, ρ2) ← evO lo ρ1
  let (u, ρ3) ← evO hi ρ2
  match s.cell ρ3 with
  | some c => do
    let r ← fSl c l u
    R.ok (.v r, ρ3)
  | none => R.bad
def rSlAll (K : PySem.W.Frag) : V → Option Int → Option Int → Hp → VK → Prop := fun x lo hi H Q => rSlF K x lo hi H Q ∨ rSlL K x lo hi H Q ∨ rSlS x lo hi H Q
theorem sa_slice {e : Expr} {m : AE} {lo hi : Option Expr} {ml mh : Option AE} {p2 pos : Pos} (he : SA X e m) (hl : SPO X lo ml) (hh : SPO X hi mh) : SA X (.Subscript e (.Slice lo hi none p2) pos) (mSl m ml mh) := by
  obtain ⟨t, p, g⟩ := he.ex
  obtain ⟨tl, pl, gl⟩ := hl.ex
  obtain ⟨th, ph, gh⟩ := hh.ex
  refine ⟨_, pe_slice (r := rSlAll X.K) (sl_tupF.or (sl_list.or sl_str)) p pl ph, fun n σ H w ρ s ρ' Q ok hm k => ?_⟩
  obtain ⟨⟨s1, ρ1⟩, e1, hm⟩ := R.of_bind hm
  obtain ⟨⟨l, ρ2⟩, e2, hm⟩ := R.of_bind hm
  obtain ⟨⟨u, ρ3⟩, e3, hm⟩ := R.of_bind hm
  dsimp only at hm e2 e3
  split at hm
  · rename_i c hc
    obtain ⟨r, e4, hm⟩ := R.of_bind hm
    cases hm
    refine g n σ H w ρ s1 _ _ ok e1 fun v H1 w1 ok1 st1 sa => ?_
    refine gl (n + 1) σ H1 w1 ρ1 l _ _ ok1 e2 fun H2 w2 ok2 st2 => ?_
    refine gh (n + 1) σ H2 w2 ρ2 u _ _ ok2 e3 fun H3 w3 ok3 st3 => ?_
    have st := st1.trans ((st2.trans st3).mono (Nat.le_succ n))
    obtain ⟨o, _, h1⟩ := (sa.step (st2.trans st3) (Nat.lt_succ_self n)).cell ok3 hc
    unfold fSl at e4
    split at e4
    · cases e4
      obtain ⟨a, xs, rfl, ta, fa⟩ := ow_tup h1
      refine .inl ⟨a, xs, rfl, ta.sq, fun z => ?_, fun _ p ob hp hd => ?_⟩
      · refine k _ H3 w3 ok3 st (.fz (.tup ta ?_))
        unfold cutD
        rw [fa.length, z.1, z.2, List.drop_zero, Nat.sub_zero, ← fa.length, List.take_length]
        exact fa
      · exact k _ _ (w3.put p .no) (ok3.new hp .no) (st.trans (Step.new hp)) (.fz (.tup (.inl ⟨⟨ob, upd_same, hd⟩, OM.put_same⟩) ((cutD_fz fa l u).step (Kp.new hp .no))))
    · split at e4
      · rename_i hk
        cases e4
        obtain ⟨a, xs, rfl, ta, la, fa⟩ := ow_lst h1
        refine .inr (.inl ⟨a, xs, rfl, .inl (.inl ta), fun p hp => ?_⟩)
        exact k _ _ (w3.put p (.tm n)) (ok3.new hp _) (st.trans (Step.new hp)) (.lst upd_same OM.put_same ((cutD_fz (fa hk) l u).step (Kp.new hp .no)))
      · cases e4
    · split at e4
      · rename_i hz
        cases e4
        cases ow_str h1
        exact .inr (.inr ⟨_, rfl, by rw [sizeLine_eq]; exact hz, k _ H3 w3 ok3 st (.fz (.str _))⟩)
      · cases e4
    · cases e4
  · cases hm

/-! ### what is handed on: frozen -/
def esc : Src → Env → R (Cell × Env)
  | .v c, ρ => .ok (c, ρ)
  | .s i, ρ => match ρ.get i with
    | some ⟨d, 0⟩ => .ok (Cell.fz d, ρ)
    | some ⟨d, _ + 1⟩ => .ok (Cell.fz d, ρ.set i (some ⟨d, 0⟩))
    | none => .bad
/-- escapes: the cell's value at tm n; from a slot it is frozen -/
theorem esc_ok {K : PySem.W.Frag} {H : Hp} {w : OM} {σ : L2.St} {ρ ρ' : Env} {n : Nat} {s : Src} {v : V} {c : Cell} (ok : Ok K H w σ ρ) (h : SrcAt K H w σ n s v) (e : esc s ρ = .ok (c, ρ')) :
    ∃ w', Ok K H w' σ ρ' ∧ (∀ m, Step m H w H w') ∧ Ow K H w' (.tm n) c.k c.d v ∧ (∀ o, o ≠ .no → (∀ i, o ≠ .sl i) → Kp o H w H w') := by
  cases s with
  | v c' =>
    cases e
    exact ⟨w, ok, fun _ => Step.refl, h, fun o _ _ a x z _ => ⟨z, rfl⟩⟩
  | s i =>
    unfold esc at e
    dsimp only at e
    have h : σ[i]? = some (some v) := h
    split at e
    · rename_i d hc
      cases e
      obtain ⟨u, e1, q⟩ := ok.slot i _ hc
      rw [h] at e1
      cases e1
      refine ⟨w, ok, fun _ => Step.refl, ?_, fun o _ _ a x z _ => ⟨z, rfl⟩⟩
      cases q with
      | fz q => exact .fz q
    · rename_i d k hc
      cases e
      obtain ⟨u, e1, q⟩ := ok.slot i _ hc
      rw [h] at e1
      cases e1
      refine ⟨w.re (.sl i) .no, ok.freeze hc, fun m => Step.re not_fixed_sl, .fz (q.freeze (by intro z; cases z)), fun o h1 h2 => Kp.re (by intro z; cases z) o (h2 i)⟩
    · cases e
/-- all of a list, frozen -/
def escs : List Src → Env → R (List D × Env)
  | [], ρ => .ok ([], ρ)
  | s :: ss, ρ => do
    let (c, ρ1) ← esc s ρ
    let (ds, ρ2) ← escs ss ρ1
    R.ok (c.d :: ds, ρ2)
theorem SrcsAt.kp {K : PySem.W.Frag} {H : Hp} {w w' : OM} {σ : L2.St} : ∀ {ss : List Src} {vs : List V} {n : Nat}, SrcsAt K H w σ n ss vs → (∀ j, n ≤ j → Kp (.tm j) H w H w') → SrcsAt K H w' σ n ss vs
  | [], [], _, _, _ => trivial
  | [], _ :: _, _, h, _ => h.elim
  | _ :: _, [], _, h, _ => h.elim
  | s :: ss, v :: vs, n, ⟨h, t⟩, k => by
    refine ⟨?_, SrcsAt.kp t fun j hj => k j (by omega)⟩
    cases s with
    | v c => exact Ow.step (k n (Nat.le_refl n)) h
    | s i => exact h
theorem escs_ok {K : PySem.W.Frag} {H : Hp} {σ : L2.St} : ∀ {ss : List Src} {vs : List V} {n : Nat} {w : OM} {ρ ρ' : Env} {ds : List D}, Ok K H w σ ρ → SrcsAt K H w σ n ss vs → escs ss ρ = .ok (ds, ρ') →
    ∃ w', Ok K H w' σ ρ' ∧ Step n H w H w' ∧ FzL K H w' ds vs
  | [], [], n, w, ρ, ρ', ds, ok, _, e => by
    cases e
    exact ⟨w, ok, Step.refl, .nil⟩
  | [], _ :: _, _, _, _, _, _, _, h, _ => h.elim
  | _ :: _, [], _, _, _, _, _, _, h, _ => h.elim
  | s :: ss, v :: vs, n, w, ρ, ρ', ds, ok, ⟨h, t⟩, e => by
    obtain ⟨⟨c, ρ1⟩, e1, e⟩ := R.of_bind e
    obtain ⟨⟨ds', ρ2⟩, e2, e⟩ := R.of_bind e
    cases e
    obtain ⟨w1, ok1, st1, h1, kp1⟩ := esc_ok ok h e1
    have ok2 : Ok K H (w1.re (.tm n) .no) σ ρ1 := ok1.re (by intro z; cases z) (by intro i z; cases z)
    have f1 : Fz K H (w1.re (.tm n) .no) c.d v := h1.freeze (by intro z; cases z)
    have t1 : SrcsAt K H (w1.re (.tm n) .no) σ (n + 1) ss vs := (t.kp fun j hj => kp1 _ (by intro z; cases z) (by intro i z; cases z)).kp fun j hj => Kp.re (by intro z; cases z) _ (by intro z; cases z; omega)
    obtain ⟨w3, ok3, st3, f3⟩ := escs_ok ok2 t1 e2
    refine ⟨w3, ok3, ((st1 n).trans (Step.re not_fixed_tm)).trans (st3.mono (Nat.le_succ n)), .cons (st3.fz f1) f3⟩

/-! ### displays -/
def mTup (ms : List AE) : AE := fun ρ => do
  let (ss, ρ1) ← evs ms ρ
  let (ds, ρ2) ← escs ss ρ1
  R.ok (.v (Cell.fz (.tup ds)), ρ2)
def mLst (ms : List AE) : AE := fun ρ => do
  let (ss, ρ1) ← evs ms ρ
  let (ds, ρ2) ← escs ss ρ1
  R.ok (.v ⟨.lst ds, 1⟩, ρ2)
theorem SrcsAt.length {K : PySem.W.Frag} {H : Hp} {w : OM} {σ : L2.St} : ∀ {ss : List Src} {vs : List V} {n : Nat}, SrcsAt K H w σ n ss vs → ss.length = vs.length
  | [], [], _, _ => rfl
  | [], _ :: _, _, h => h.elim
  | _ :: _, [], _, h => h.elim
  | s :: ss, v :: vs, n, ⟨_, t⟩ => by rw [List.length_cons, List.length_cons, t.length]
theorem evs_length : ∀ {ms : List AE} {ρ ρ' : Env} {ss : List Src}, evs ms ρ = .ok (ss, ρ') → ss.length = ms.length
  | [], _, _, _, h => by cases h; rfl
  | m :: ms, ρ, ρ', ss, h => by
    obtain ⟨⟨s, ρ1⟩, e1, h⟩ := R.of_bind h
    obtain ⟨⟨ss2, ρ2⟩, e2, h⟩ := R.of_bind h
    cases h
    rw [List.length_cons, List.length_cons, evs_length e2]
theorem sa_tup {es : List Expr} {ms : List AE} {x1 : Nat} {pos : Pos} (h : SAs X es ms) (hl : ms.length ≤ 1000 := by decide) : SA X (.Tuple es x1 pos) (mTup ms) := by
  obtain ⟨t, p, g⟩ := h.ex
  refine ⟨_, pe_tupF p, fun n σ H w ρ s ρ' Q ok hm k => ?_⟩
  obtain ⟨⟨ss, ρ1⟩, e1, hm⟩ := R.of_bind hm
  obtain ⟨⟨ds, ρ2⟩, e2, hm⟩ := R.of_bind hm
  cases hm
  refine g n σ H w ρ ss _ _ ok e1 fun vs H1 w1 ok1 st1 sa => ?_
  obtain ⟨w2, ok2, st2, f2⟩ := escs_ok ok1 sa e2
  refine ⟨?_, fun p ob hp hd => ?_⟩
  · rw [sizeLine_eq, ← sa.length, evs_length e1]; omega
  · exact k _ _ (w2.put p .no) (ok2.new hp .no) ((st1.trans st2).trans (Step.new hp)) (.fz (.tup (.inl ⟨⟨ob, upd_same, hd⟩, OM.put_same⟩) (f2.step (Kp.new hp .no))))
theorem sa_lst {es : List Expr} {ms : List AE} {pos : Pos} (h : SAs X es ms) (hl : ms.length ≤ 1000 := by decide) : SA X (.List es pos) (mLst ms) := by
  obtain ⟨t, p, g⟩ := h.ex
  refine ⟨_, pe_lst p, fun n σ H w ρ s ρ' Q ok hm k => ?_⟩
  obtain ⟨⟨ss, ρ1⟩, e1, hm⟩ := R.of_bind hm
  obtain ⟨⟨ds, ρ2⟩, e2, hm⟩ := R.of_bind hm
  cases hm
  refine g n σ H w ρ ss _ _ ok e1 fun vs H1 w1 ok1 st1 sa => ?_
  obtain ⟨w2, ok2, st2, f2⟩ := escs_ok ok1 sa e2
  refine ⟨?_, fun p hp => ?_⟩
  · rw [sizeLine_eq, ← sa.length, evs_length e1]; omega
  · exact k _ _ (w2.put p (.tm n)) (ok2.new hp _) ((st1.trans st2).trans (Step.new hp)) (.lst upd_same OM.put_same (f2.step (Kp.new hp .no)))

/-! ### tests -/
abbrev MT := Env → R (Bool × Env)
structure ST (X : Cx) (e : Expr) (m : MT) : Prop where
  ex : ∃ t, PT X e t ∧ ∀ (n : Nat) (σ : L2.St) (H : Hp) (w : OM) (ρ : Env) (b : Bool) (ρ' : Env) (Q : Bool → Hp → Prop), Ok X.K H w σ ρ → m ρ = .ok (b, ρ') →
    (∀ H' w', Ok X.K H' w' σ ρ' → Step n H w H' w' → Q b H') → t σ H Q
structure SW (X : Cx) (e : Expr) (m : MT) : Prop where
  ex : ∃ t, PW X e t ∧ ∀ (n : Nat) (σ : L2.St) (H : Hp) (w : OM) (ρ : Env) (b : Bool) (ρ' : Env) (Q : Bool → Hp → Prop), Ok X.K H w σ ρ → m ρ = .ok (b, ρ') →
    (∀ H' w', Ok X.K H' w' σ ρ' → Step n H w H' w' → Q b H') → t σ H Q
theorem SW.st {e : Expr} {m : MT} (h : SW X e m) : ST X e m := by
  obtain ⟨t, p, g⟩ := h.ex
  exact ⟨t, p.pt, g⟩
def truth : D → Option Bool
  | .non => some false
  | .bl b => some b
  | .int i => some (i != 0)
  | .str x => if x.length ≤ 16777216 then some ((x.length : Int) != 0) else none
  | .tup l => some (!l.isEmpty)
  | .lst l => some (!l.isEmpty)
  | .scr l => some (!l.isEmpty)
  | .dct _ _ => none
theorem isEmpty_eq {α β : Type} {l : List α} {m : List β} (h : l.length = m.length) : l.isEmpty = m.isEmpty := by
  cases l <;> cases m <;> first | rfl | (simp at h)
theorem truth_ok {H : Hp} {w : OM} {o : Own} {k : Nat} {d : D} {v : V} {b : Bool} (h : Ow X.K H w o k d v) (e : truth d = some b) : TruV X.K v H b := by
  cases d with
  | non => cases e; cases ow_non h; rfl
  | bl c => cases e; cases ow_bl h; rfl
  | int i => cases e; cases ow_int h; rfl
  | str x =>
    have e : (if x.length ≤ 16777216 then some ((x.length : Int) != 0) else none) = some b := e
    split at e
    · rename_i hx
      cases e; cases ow_str h
      exact ⟨by rw [sizeLine_eq]; exact hx, rfl⟩
    · cases e
  | tup l =>
    cases e
    obtain ⟨a, xs, rfl, ta, fa⟩ := ow_tup h
    exact .inr (.inl ⟨xs, ta.sq, by rw [isEmpty_eq fa.length]⟩)
  | lst l =>
    cases e
    obtain ⟨a, xs, rfl, ta, la, fa⟩ := ow_lst h
    exact .inl ⟨xs, .inl (.inl ta), by rw [isEmpty_eq la]⟩
  | scr l =>
    cases e
    obtain ⟨a, xs, rfl, ta, fa⟩ := ow_scr h
    exact .inl ⟨xs, ta, by rw [isEmpty_eq fa.length]⟩
  | dct ks ds => cases e
def mTest (a : AE) : MT := fun ρ => do
  let (s, ρ1) ← a ρ
  match s.cell ρ1 with
  | some c => match truth c.d with
    | some b => R.ok (b, ρ1)
    | none => R.bad
  | none => R.bad
theorem mTest_ok {a : AE} {ρ ρ' : Env} {b : Bool} (h : mTest a ρ = .ok (b, ρ')) : ∃ s c, a ρ = .ok (s, ρ') ∧ s.cell ρ' = some c ∧ truth c.d = some b := by
  obtain ⟨⟨s, ρ1⟩, e1, h⟩ := R.of_bind h
  dsimp only at h
  split at h
  · rename_i c hc
    split at h
    · rename_i hb
      cases h
      exact ⟨s, c, e1, hc, hb⟩
    · cases h
  · cases h
/-- the truth of a value; not for comparisons, and, or, not, if -/
theorem st_truth {e : Expr} {m : AE} (ha : SA X e m) (he : ∀ whole, isTrue e X.env whole = (do let v ← whole; standAt e.pos; holding [v] (truthy v)) := by exact fun _ => rfl) : ST X e (mTest m) := by
  obtain ⟨t, p, g⟩ := ha.ex
  refine ⟨_, pt_truth p he, fun n σ H w ρ b ρ' Q ok hm k => ?_⟩
  obtain ⟨s, c, e1, hc, hb⟩ := mTest_ok hm
  refine g n σ H w ρ s _ _ ok e1 fun v H1 w1 ok1 st1 sa => ?_
  obtain ⟨o, _, h1⟩ := sa.cell ok1 hc
  exact ⟨b, truth_ok h1 hb, k H1 w1 ok1 st1⟩
/-- a comparison -/
theorem st_cmp {op : CmpOp} {f : List Cell → R Cell} {r : R2} {a b : Expr} {ma mb : AE} {pos : Pos} (ho : OpR X (compareOp op) r) (hs : CallS X (r2L r) f) (hm : behindInMarks op b = false) (ha : SA X a ma) (hb : SA X b mb)
    (hB : ∀ cs c, f cs = .ok c → ∃ k, c = Cell.fz (.bl k)) : ST X (.Compare a [op] [b] pos) (mTest (mPrim f [ma, mb])) := by
  obtain ⟨t, p, h⟩ := ha.ex
  obtain ⟨u, q, g⟩ := hb.ex
  refine ⟨_, pt_cmpR ho p q hm, fun n σ H w ρ bb ρ' Q ok hm k => ?_⟩
  obtain ⟨s, c0, e0, hc0, hb0⟩ := mTest_ok hm
  obtain ⟨ss, cs, c, e1, e2, e3, rfl⟩ := mPrim_ok e0
  cases hc0
  obtain ⟨kk, rfl⟩ := hB _ _ e3
  cases hb0
  obtain ⟨⟨s1, ρ1⟩, f1, e1⟩ := R.of_bind e1
  obtain ⟨⟨ss2, ρ2⟩, f2, e1⟩ := R.of_bind e1
  cases e1
  obtain ⟨⟨s2, ρ3⟩, f3, f2⟩ := R.of_bind f2
  cases f2
  refine h n σ H w ρ s1 ρ1 _ ok f1 fun v H1 w1 ok1 st1 q1 => ?_
  refine g (n + 1) σ H1 w1 ρ1 s2 ρ' _ ok1 f3 fun v2 H2 w2 ok2 st2 q2 => ?_
  refine hs n H2 w2 σ ρ' cs [v, v2] _ _ ok2 (SrcsAt.cells (n := n) (ss := [s1, s2]) (vs := [v, v2]) ok2 ⟨q1.step st2 (Nat.lt_succ_self n), q2, trivial⟩ e2) e3 fun v3 H3 w3 ok3 st3 q3 => ?_
  exact ⟨_, ow_bl q3, k H3 w3 ok3 ((st1.trans (st2.mono (Nat.le_succ n))).trans st3)⟩
theorem bl_I2 {g : Int → Int → R D} (h : ∀ i j d, g i j = .ok d → ∃ k, d = .bl k) : ∀ cs c, fI2 g cs = .ok c → ∃ k, c = Cell.fz (.bl k) := fun cs c e => by
  unfold fI2 at e
  split at e
  · obtain ⟨d, e1, e⟩ := R.of_bind e
    cases e
    obtain ⟨k, rfl⟩ := h _ _ _ e1
    exact ⟨k, rfl⟩
  · cases e
theorem bl_cmp {p : Int → Int → Bool} : ∀ cs c, fCmp p cs = .ok c → ∃ k, c = Cell.fz (.bl k) := bl_I2 fun i j d e => by cases e; exact ⟨_, rfl⟩
theorem bl_eq : ∀ cs c, fEq cs = .ok c → ∃ k, c = Cell.fz (.bl k) := fun cs c e => by
  unfold fEq at e
  split at e
  · split at e
    · cases e; exact ⟨_, rfl⟩
    · cases e
  · cases e
theorem bl_ne : ∀ cs c, fNe cs = .ok c → ∃ k, c = Cell.fz (.bl k) := fun cs c e => by
  unfold fNe at e
  split at e
  · split at e
    · cases e; exact ⟨_, rfl⟩
    · cases e
  · cases e
theorem bl_in {neg : Bool} : ∀ cs c, fIn neg cs = .ok c → ∃ k, c = Cell.fz (.bl k) := fun cs c e => by
  unfold fIn at e
  split at e
  · obtain ⟨b, e1, e⟩ := R.of_bind e
    cases e
    exact ⟨_, rfl⟩
  · cases e
def mNotT (m : MT) : MT := fun ρ => do
  let (b, ρ1) ← m ρ
  R.ok (!b, ρ1)
theorem st_not {e : Expr} {m : MT} {pos : Pos} (h : ST X e m) : ST X (.UnaryOp .Not e pos) (mNotT m) := by
  obtain ⟨t, p, g⟩ := h.ex
  refine ⟨_, pt_not p, fun n σ H w ρ b ρ' Q ok hm k => ?_⟩
  obtain ⟨⟨c, ρ1⟩, e1, hm⟩ := R.of_bind hm
  cases hm
  exact g n σ H w ρ c _ _ ok e1 fun H1 w1 ok1 st1 => k H1 w1 ok1 st1
def mAndT (a b : MT) : MT := fun ρ => do
  let (c, ρ1) ← a ρ
  if c then b ρ1 else R.ok (false, ρ1)
def mOrT (a b : MT) : MT := fun ρ => do
  let (c, ρ1) ← a ρ
  if c then R.ok (true, ρ1) else b ρ1
theorem sw_and1 {a : Expr} {m : MT} {pos : Pos} (h : ST X a m) : SW X (.BoolOp .And [a] pos) m := by
  obtain ⟨t, p, g⟩ := h.ex
  exact ⟨t, pw_and1 p, g⟩
theorem sw_or1 {a : Expr} {m : MT} {pos : Pos} (h : ST X a m) : SW X (.BoolOp .Or [a] pos) m := by
  obtain ⟨t, p, g⟩ := h.ex
  exact ⟨t, pw_or1 p, g⟩
theorem sw_and {a b : Expr} {rest : List Expr} {m m2 : MT} {pos : Pos} (h : ST X a m) (h2 : SW X (.BoolOp .And (b :: rest) pos) m2) : SW X (.BoolOp .And (a :: b :: rest) pos) (mAndT m m2) := by
  obtain ⟨t, p, g⟩ := h.ex
  obtain ⟨t2, p2, g2⟩ := h2.ex
  refine ⟨_, pw_and p p2, fun n σ H w ρ b ρ' Q ok hm k => ?_⟩
  obtain ⟨⟨c, ρ1⟩, e1, hm⟩ := R.of_bind hm
  refine g n σ H w ρ c _ _ ok e1 fun H1 w1 ok1 st1 => ?_
  cases c with
  | true => exact iteT (g2 n σ H1 w1 ρ1 b ρ' Q ok1 hm fun H2 w2 ok2 st2 => k H2 w2 ok2 (st1.trans st2))
  | false =>
    cases hm
    exact iteF (k H1 w1 ok1 st1)
theorem sw_or {a b : Expr} {rest : List Expr} {m m2 : MT} {pos : Pos} (h : ST X a m) (h2 : SW X (.BoolOp .Or (b :: rest) pos) m2) : SW X (.BoolOp .Or (a :: b :: rest) pos) (mOrT m m2) := by
  obtain ⟨t, p, g⟩ := h.ex
  obtain ⟨t2, p2, g2⟩ := h2.ex
  refine ⟨_, pw_or p p2, fun n σ H w ρ b ρ' Q ok hm k => ?_⟩
  obtain ⟨⟨c, ρ1⟩, e1, hm⟩ := R.of_bind hm
  refine g n σ H w ρ c _ _ ok e1 fun H1 w1 ok1 st1 => ?_
  cases c with
  | false => exact iteF (g2 n σ H1 w1 ρ1 b ρ' Q ok1 hm fun H2 w2 ok2 st2 => k H2 w2 ok2 (st1.trans st2))
  | true =>
    cases hm
    exact iteT (k H1 w1 ok1 st1)
/-! ### and, or, not, if as values -/
def mNotV (a : AE) : AE := fun ρ => do
  let (b, ρ1) ← mTest a ρ
  R.ok (.v (Cell.fz (.bl (!b))), ρ1)
theorem sa_not {e : Expr} {m : AE} {pos : Pos} (h : SA X e m) : SA X (.UnaryOp .Not e pos) (mNotV m) := by
  obtain ⟨t, p, g⟩ := h.ex
  refine ⟨_, pe_notT p, fun n σ H w ρ s ρ' Q ok hm k => ?_⟩
  obtain ⟨⟨b, ρ1⟩, e1, hm⟩ := R.of_bind hm
  cases hm
  obtain ⟨s, c, e1, hc, hb⟩ := mTest_ok e1
  refine g n σ H w ρ s _ _ ok e1 fun v H1 w1 ok1 st1 sa => ?_
  obtain ⟨o, _, h1⟩ := sa.cell ok1 hc
  exact ⟨b, truth_ok h1 hb, k _ H1 w1 ok1 st1 (.fz (.bl _))⟩
/-- and, or of bools: the last one may be anything -/
def mAndV (a b : AE) : AE := fun ρ => do
  let (s, ρ1) ← a ρ
  match s.cell ρ1 with
  | some ⟨.bl c, _⟩ => if c then b ρ1 else R.ok (.v (Cell.fz (.bl false)), ρ1)
  | _ => R.bad
def mOrV (a b : AE) : AE := fun ρ => do
  let (s, ρ1) ← a ρ
  match s.cell ρ1 with
  | some ⟨.bl c, _⟩ => if c then R.ok (.v (Cell.fz (.bl true)), ρ1) else b ρ1
  | _ => R.bad
theorem sa_one {op : BoolOp} {a : Expr} {m : AE} {pos : Pos} (h : SA X a m) : SA X (.BoolOp op [a] pos) m := by
  obtain ⟨t, p, g⟩ := h.ex
  exact ⟨t, pe_one p, g⟩
theorem sa_and {a b : Expr} {rest : List Expr} {m m2 : AE} {pos : Pos} (h : SA X a m) (h2 : SA X (.BoolOp .And (b :: rest) pos) m2) : SA X (.BoolOp .And (a :: b :: rest) pos) (mAndV m m2) := by
  obtain ⟨t, p, g⟩ := h.ex
  obtain ⟨t2, p2, g2⟩ := h2.ex
  refine ⟨_, pe_and p p2, fun n σ H w ρ s ρ' Q ok hm k => ?_⟩
  obtain ⟨⟨s1, ρ1⟩, e1, hm⟩ := R.of_bind hm
  dsimp only at hm
  split at hm
  · rename_i c _ hc
    refine g n σ H w ρ s1 _ _ ok e1 fun v H1 w1 ok1 st1 sa => ?_
    obtain ⟨o, _, h1⟩ := sa.cell ok1 hc
    refine ⟨c, ow_bl h1, ?_⟩
    cases c with
    | true => exact iteT (g2 n σ H1 w1 ρ1 s ρ' Q ok1 hm fun v H2 w2 ok2 st2 => k v H2 w2 ok2 (st1.trans st2))
    | false =>
      cases hm
      exact iteF (k _ H1 w1 ok1 st1 (.fz (.bl _)))
  · cases hm
def mIfE (t : MT) (a b : AE) : AE := fun ρ => do
  let (c, ρ1) ← t ρ
  if c then a ρ1 else b ρ1
/-- a op1 b op2 c -/
def mChain (f g : List Cell → R Cell) (a b c : AE) : AE := fun ρ => do
  let (s1, ρ1) ← a ρ
  let (s2, ρ2) ← b ρ1
  match s1.cell ρ2, s2.cell ρ2 with
  | some c1, some c2 => do
    let r ← f [c1, c2]
    match r with
    | ⟨.bl true, _⟩ => do
      let (s3, ρ3) ← c ρ2
      match s2.cell ρ3, s3.cell ρ3 with
      | some c2, some c3 => do
        let r ← g [c2, c3]
        R.ok (.v r, ρ3)
      | _, _ => R.bad
    | ⟨.bl false, _⟩ => R.ok (.v (Cell.fz (.bl false)), ρ2)
    | _ => R.bad
  | _, _ => R.bad
end
end Z

/-! Z: statements, loops. -/
namespace Z
open PySem PySem.Spec PyProof.Rows L2

inductive Fl where
  | next | brk | cont | ret (c : Cell)
/-- L: the slots that may not be bound anew -/
abbrev MS := List Nat → Env → R (Fl × Env)
def FlP (K : PySem.W.Frag) (D : Ends) (n : Nat) (H : Hp) (w : OM) (σ : L2.St) : Fl → Prop
  | .next => D.nx σ H
  | .brk => D.bk σ H
  | .cont => D.ct σ H
  | .ret c => ∀ v, Ow K H w (.tm n) c.k c.d v → D.rt v H
structure SS (X : Cx) (s : Stmt) (m : MS) : Prop where
  ex : ∃ t, PS X s t ∧ ∀ (n : Nat) (σ : L2.St) (H : Hp) (w : OM) (ρ : Env) (L : List Nat) (fl : Fl) (ρ' : Env) (D : Ends), Ok X.K H w σ ρ → m L ρ = .ok (fl, ρ') →
    (∀ σ' H' w', Ok X.K H' w' σ' ρ' → Step n H w H' w' → (∀ i ∈ L, σ'[i]? = σ[i]?) → FlP X.K D n H' w' σ' fl) → t D σ H
structure SSs (X : Cx) (s : List Stmt) (m : MS) : Prop where
  ex : ∃ t, PSs X s t ∧ ∀ (n : Nat) (σ : L2.St) (H : Hp) (w : OM) (ρ : Env) (L : List Nat) (fl : Fl) (ρ' : Env) (D : Ends), Ok X.K H w σ ρ → m L ρ = .ok (fl, ρ') →
    (∀ σ' H' w', Ok X.K H' w' σ' ρ' → Step n H w H' w' → (∀ i ∈ L, σ'[i]? = σ[i]?) → FlP X.K D n H' w' σ' fl) → t D σ H

/-! ### a value is taken -/
def take (L : List Nat) : Src → Env → R (Cell × Env)
  | .v c, ρ => .ok (c, ρ)
  | .s i, ρ => match ρ.get i with
    | some ⟨d, 0⟩ => .ok (Cell.fz d, ρ)
    | some ⟨d, k + 1⟩ => if L.contains i then .ok (Cell.fz d, ρ.set i (some ⟨d, 0⟩)) else .ok (⟨d, k + 1⟩, ρ.set i none)
    | none => .bad
section
variable {K : PySem.W.Frag} {H : Hp} {w : OM} {σ : L2.St} {ρ ρ' : Env} {n : Nat}
theorem Ok.drop {i : Nat} (ok : Ok K H w σ ρ) : Ok K H w σ (ρ.set i none) := by
  refine ⟨by rw [Env.length_set]; exact ok.len, fun j x q => ?_, ok.live⟩
  rcases Env.get_set q with ⟨_, z⟩ | ⟨_, z⟩
  · cases z
  · exact ok.slot j x z
theorem take_ok {L : List Nat} {s : Src} {v : V} {c : Cell} (ok : Ok K H w σ ρ) (h : SrcAt K H w σ n s v) (e : take L s ρ = .ok (c, ρ')) :
    ∃ w', Ok K H w' σ ρ' ∧ (∀ m, Step m H w H w') ∧ Ow K H w' (.tm n) c.k c.d v := by
  cases s with
  | v c' =>
    cases e
    exact ⟨w, ok, fun _ => Step.refl, h⟩
  | s i =>
    unfold take at e
    dsimp only at e
    have h : σ[i]? = some (some v) := h
    split at e
    · rename_i d hc
      cases e
      obtain ⟨u, e1, q⟩ := ok.slot i _ hc
      rw [h] at e1
      cases e1
      refine ⟨w, ok, fun _ => Step.refl, ?_⟩
      cases q with
      | fz q => exact .fz q
    · rename_i d k hc
      obtain ⟨u, e1, q⟩ := ok.slot i _ hc
      rw [h] at e1
      cases e1
      split at e
      · cases e
        exact ⟨w.re (.sl i) .no, ok.freeze hc, fun m => Step.re not_fixed_sl, .fz (q.freeze (by intro z; cases z))⟩
      · cases e
        refine ⟨w.re (.sl i) (.tm n), ?_, fun m => Step.re not_fixed_sl, q.re (by intro z; cases z)⟩
        refine ⟨by rw [Env.length_set]; exact ok.len, fun j x q => ?_, fun a h => ?_⟩
        · rcases Env.get_set q with ⟨_, z⟩ | ⟨hj, z⟩
          · cases z
          · obtain ⟨v, e1, h⟩ := ok.slot j x z
            exact ⟨v, e1, h.other (by intro z; cases z) (by intro z; cases z; exact hj rfl)⟩
        · by_cases z : w a = .sl i
          · exact ok.live a (by rw [z]; intro q; cases q)
          · rw [OM.re_ne z] at h; exact ok.live a h
    · cases e
/-- a value is bound to a slot -/
theorem Ok.store {i : Nat} {c : Cell} {v : V} (ok : Ok K H w σ ρ) (h : Ow K H w (.tm n) c.k c.d v) : Ok K H (w.re (.tm n) (.sl i)) (σ.set i (some v)) (ρ.set i (some c)) := by
  refine ⟨by rw [Env.length_set, List.length_set]; exact ok.len, fun j x q => ?_, fun a h => ?_⟩
  · rcases Env.get_set q with ⟨ej, z⟩ | ⟨hj, z⟩
    · subst ej
      cases z
      have hl : j < σ.length := by
        have := Env.get_lt q
        rw [Env.length_set] at this
        rw [ok.len]; exact this
      exact ⟨v, List.getElem?_set_self hl, h.re (by intro z; cases z)⟩
    · obtain ⟨u, e1, q⟩ := ok.slot j x z
      exact ⟨u, by rw [List.getElem?_set_ne (Ne.symm hj)]; exact e1, q.other (by intro z; cases z) (by intro z; cases z)⟩
  · by_cases z : w a = .tm n
    · exact ok.live a (by rw [z]; intro q; cases q)
    · rw [OM.re_ne z] at h; exact ok.live a h
theorem Ok.storeFz {i : Nat} {d : D} {v : V} (ok : Ok K H w σ ρ) (h : Fz K H w d v) : Ok K H w (σ.set i (some v)) (ρ.set i (some (Cell.fz d))) := by
  refine ⟨by rw [Env.length_set, List.length_set]; exact ok.len, fun j x q => ?_, ok.live⟩
  rcases Env.get_set q with ⟨ej, z⟩ | ⟨hj, z⟩
  · subst ej
    cases z
    have hl : j < σ.length := by
      have := Env.get_lt q
      rw [Env.length_set] at this
      rw [ok.len]; exact this
    exact ⟨v, List.getElem?_set_self hl, .fz h⟩
  · obtain ⟨u, e1, q⟩ := ok.slot j x z
    exact ⟨u, by rw [List.getElem?_set_ne (Ne.symm hj)]; exact e1, q⟩
theorem set_keep {σ : L2.St} {L : List Nat} {i : Nat} {x : Option V} (h : L.contains i = false) : ∀ j ∈ L, (σ.set i x)[j]? = σ[j]? := fun j hj => by
  refine List.getElem?_set_ne ?_
  intro e
  subst e
  have : L.contains i = true := by simpa using hj
  rw [h] at this
  cases this
end

section
variable {X : Cx} {pos : Pos}
/-! ### small statements -/
def mNext : MS := fun _ ρ => .ok (.next, ρ)
def mBrk : MS := fun _ ρ => .ok (.brk, ρ)
def mCont : MS := fun _ ρ => .ok (.cont, ρ)
theorem sss_nil : SSs X [] mNext := ⟨_, pss_nil, fun n σ H w ρ L fl ρ' D ok hm k => by
  cases hm
  exact k σ H w ok Step.refl fun _ _ => rfl⟩
def mSeq (a b : MS) : MS := fun L ρ => do
  let (fl, ρ1) ← a L ρ
  match fl with
  | .next => b L ρ1
  | f => R.ok (f, ρ1)
theorem sss_cons {s : Stmt} {rest : List Stmt} {a b : MS} (ha : SS X s a) (hb : SSs X rest b) : SSs X (s :: rest) (mSeq a b) := by
  obtain ⟨t, p, g⟩ := ha.ex
  obtain ⟨u, q, g2⟩ := hb.ex
  refine ⟨_, pss_cons p q, fun n σ H w ρ L fl ρ' D ok hm k => ?_⟩
  obtain ⟨⟨f, ρ1⟩, e1, hm⟩ := R.of_bind hm
  refine g n σ H w ρ L f ρ1 _ ok e1 fun σ1 H1 w1 ok1 st1 l1 => ?_
  cases f with
  | next =>
    refine g2 n σ1 H1 w1 ρ1 L fl ρ' D ok1 hm fun σ2 H2 w2 ok2 st2 l2 => ?_
    exact k σ2 H2 w2 ok2 (st1.trans st2) fun i hi => (l2 i hi).trans (l1 i hi)
  | brk => cases hm; exact k σ1 H1 w1 ok1 st1 l1
  | cont => cases hm; exact k σ1 H1 w1 ok1 st1 l1
  | ret c => cases hm; exact k σ1 H1 w1 ok1 st1 l1
def mExpr (m : AE) : MS := fun _ ρ => do
  let (_, ρ1) ← m ρ
  R.ok (.next, ρ1)
theorem ss_expr {e : Expr} {m : AE} (h : SA X e m) (hs : swapsWith e none pos.line X.env = pure false := by rfl) : SS X (.Expr e pos) (mExpr m) := by
  obtain ⟨t, p, g⟩ := h.ex
  refine ⟨_, ps_expr p hs, fun n σ H w ρ L fl ρ' D ok hm k => ?_⟩
  obtain ⟨⟨s, ρ1⟩, e1, hm⟩ := R.of_bind hm
  cases hm
  exact g n σ H w ρ s _ _ ok e1 fun v H1 w1 ok1 st1 _ => k σ H1 w1 ok1 st1 fun _ _ => rfl
def mRet (m : AE) : MS := fun L ρ => do
  let (s, ρ1) ← m ρ
  let (c, ρ2) ← take L s ρ1
  R.ok (.ret c, ρ2)
theorem ss_ret {e : Expr} {m : AE} (h : SA X e m) : SS X (.Return (some e) pos) (mRet m) := by
  obtain ⟨t, p, g⟩ := h.ex
  refine ⟨_, ps_ret p, fun n σ H w ρ L fl ρ' D ok hm k => ?_⟩
  obtain ⟨⟨s, ρ1⟩, e1, hm⟩ := R.of_bind hm
  obtain ⟨⟨c, ρ2⟩, e2, hm⟩ := R.of_bind hm
  cases hm
  refine g n σ H w ρ s _ _ ok e1 fun v H1 w1 ok1 st1 sa => ?_
  obtain ⟨w2, ok2, st2, ow⟩ := take_ok ok1 sa e2
  exact k σ H1 w2 ok2 (st1.trans (st2 n)) (fun _ _ => rfl) v ow
def mRetN : MS := fun _ ρ => .ok (.ret (Cell.fz .non), ρ)
def mSet (i : Nat) (m : AE) : MS := fun L ρ => do
  let (s, ρ1) ← m ρ
  let (c, ρ2) ← take L s ρ1
  if L.contains i then R.bad else R.ok (.next, ρ2.set i (some c))
theorem mSet_core {i : Nat} {m : AE} {t : TE} (g : ∀ (n : Nat) (σ : L2.St) (H : Hp) (w : OM) (ρ : Env) (s : Src) (ρ' : Env) (Q : VK), Ok X.K H w σ ρ → m ρ = .ok (s, ρ') →
    (∀ v H' w', Ok X.K H' w' σ ρ' → Step n H w H' w' → SrcAt X.K H' w' σ n s v → Q v H') → t σ H Q) :
    ∀ (n : Nat) (σ : L2.St) (H : Hp) (w : OM) (ρ : Env) (L : List Nat) (fl : Fl) (ρ' : Env) (D : Ends), Ok X.K H w σ ρ → mSet i m L ρ = .ok (fl, ρ') →
    (∀ σ' H' w', Ok X.K H' w' σ' ρ' → Step n H w H' w' → (∀ i ∈ L, σ'[i]? = σ[i]?) → FlP X.K D n H' w' σ' fl) → tAsg t (gName i) D σ H := by
  intro n σ H w ρ L fl ρ' D ok hm k
  obtain ⟨⟨s, ρ1⟩, e1, hm⟩ := R.of_bind hm
  obtain ⟨⟨c, ρ2⟩, e2, hm⟩ := R.of_bind hm
  dsimp only at hm
  split at hm
  · cases hm
  · rename_i hL
    cases hm
    refine g n σ H w ρ s _ _ ok e1 fun v H1 w1 ok1 st1 sa => ?_
    obtain ⟨w2, ok2, st2, ow⟩ := take_ok ok1 sa e2
    exact k _ H1 _ (ok2.store (i := i) ow) ((st1.trans (st2 n)).trans (Step.re not_fixed_tm)) (set_keep (by simpa using hL))
theorem ss_set {i : Nat} {x : Str} {e : Expr} {m : AE} {pos' : Pos} (h : SA X e m) (hN : X.N.Nodup) (hi : X.N[i]? = some x := by rfl) (hx : Loc X.env.scope x := by first | exact Or.inl rfl | exact Or.inr rfl)
    (hs : swapsWith e (some (.Name x pos')) pos.line X.env = pure false := by rfl) (hf : X.fn x = true ∨ X.env.scope.names.lookup x = some .local := by first | exact .inl rfl | exact .inr rfl) : SS X (.Assign [.Name x pos'] e pos) (mSet i m) := by
  obtain ⟨t, p, g⟩ := h.ex
  exact ⟨_, ps_set hN hi hx p hs hf, mSet_core g⟩
def mIf (t : MT) (a b : MS) : MS := fun L ρ => do
  let (c, ρ1) ← t ρ
  if c then a L ρ1 else b L ρ1
theorem ss_if {c : Expr} {a b : List Stmt} {mc : MT} {ma mb : MS} (hc : ST X c mc) (ha : SSs X a ma) (hb : SSs X b mb) : SS X (.If c a b pos) (mIf mc ma mb) := by
  obtain ⟨t, p, g⟩ := hc.ex
  obtain ⟨ta, pa, ga⟩ := ha.ex
  obtain ⟨tb, pb, gb⟩ := hb.ex
  refine ⟨_, ps_if p pa pb, fun n σ H w ρ L fl ρ' D ok hm k => ?_⟩
  obtain ⟨⟨b, ρ1⟩, e1, hm⟩ := R.of_bind hm
  refine g n σ H w ρ b _ _ ok e1 fun H1 w1 ok1 st1 => ?_
  cases b with
  | true => exact iteT (ga n σ H1 w1 ρ1 L fl ρ' D ok1 hm fun σ2 H2 w2 ok2 st2 l2 => k σ2 H2 w2 ok2 (st1.trans st2) l2)
  | false => exact iteF (gb n σ H1 w1 ρ1 L fl ρ' D ok1 hm fun σ2 H2 w2 ok2 st2 l2 => k σ2 H2 w2 ok2 (st1.trans st2) l2)

/-! ### targets -/
abbrev MG := D → List Nat → Env → R Env
structure SG (X : Cx) (tg : Expr) (sl : List Nat) (m : MG) : Prop where
  ex : ∃ g, PG X tg g ∧ ∀ (σ : L2.St) (H : Hp) (w : OM) (ρ : Env) (L : List Nat) (d : D) (v : V) (ρ' : Env) (Q : L2.St → Hp → Prop), Ok X.K H w σ ρ → Fz X.K H w d v → m d L ρ = .ok ρ' →
    (∀ σ', Ok X.K H w σ' ρ' → σ'.length = σ.length → (∀ i, i ∉ sl → σ'[i]? = σ[i]?) → (∀ i ∈ L, σ'[i]? = σ[i]?) → Q σ' H) → g v σ H Q
structure SGs (X : Cx) (tgs : List Expr) (sl : List Nat) (m : List D → List Nat → Env → R Env) : Prop where
  ex : ∃ g, PGs X tgs g ∧ ∀ (σ : L2.St) (H : Hp) (w : OM) (ρ : Env) (L : List Nat) (ds : List D) (vs : List V) (ρ' : Env) (Q : L2.St → Hp → Prop), Ok X.K H w σ ρ → FzL X.K H w ds vs → m ds L ρ = .ok ρ' →
    (∀ σ', Ok X.K H w σ' ρ' → σ'.length = σ.length → (∀ i, i ∉ sl → σ'[i]? = σ[i]?) → (∀ i ∈ L, σ'[i]? = σ[i]?) → Q σ' H) → g vs σ H Q
def gN (i : Nat) : MG := fun d L ρ => if L.contains i then .bad else .ok (ρ.set i (some (Cell.fz d)))
theorem sg_name {i : Nat} {x : Str} (hN : X.N.Nodup) (hi : X.N[i]? = some x := by rfl) (hx : Loc X.env.scope x := by first | exact Or.inl rfl | exact Or.inr rfl)
    (hf : X.fn x = true ∨ X.env.scope.names.lookup x = some .local := by first | exact .inl rfl | exact .inr rfl) : SG X (.Name x pos) [i] (gN i) := by
  refine ⟨_, pg_name hN hi hx hf, fun σ H w ρ L d v ρ' Q ok h hm k => ?_⟩
  unfold gN at hm
  split at hm
  · cases hm
  · rename_i hL
    cases hm
    exact k _ (ok.storeFz h) List.length_set (fun j hj => List.getElem?_set_ne (by intro e; exact hj (by simp [e]))) (set_keep (by simpa using hL))
def gsNil : List D → List Nat → Env → R Env := fun ds _ ρ => match ds with
  | [] => .ok ρ
  | _ => .bad
def gsCons (g : MG) (gs : List D → List Nat → Env → R Env) : List D → List Nat → Env → R Env := fun ds L ρ => match ds with
  | d :: r => do
    let ρ1 ← g d L ρ
    gs r L ρ1
  | [] => .bad
theorem sgs_nil : SGs X [] [] gsNil := ⟨_, pgs_nil, fun σ H w ρ L ds vs ρ' Q ok h hm k => by
  cases h with
  | nil => cases hm; exact ⟨rfl, k σ ok rfl (fun _ _ => rfl) fun _ _ => rfl⟩
  | cons _ _ => cases hm⟩
theorem sgs_cons {e : Expr} {es : List Expr} {s1 s2 : List Nat} {g : MG} {gs : List D → List Nat → Env → R Env} (h1 : SG X e s1 g) (h2 : SGs X es s2 gs)
    (hs : (assignEach (e :: es) X.env).map (·.2) = assign e X.env :: (assignEach es X.env).map (·.2) := by rfl) : SGs X (e :: es) (s1 ++ s2) (gsCons g gs) := by
  obtain ⟨t, p, f⟩ := h1.ex
  obtain ⟨u, q, f2⟩ := h2.ex
  refine ⟨_, pgs_cons p q hs, fun σ H w ρ L ds vs ρ' Q ok h hm k => ?_⟩
  cases h with
  | nil => cases hm
  | cons h t =>
    obtain ⟨ρ1, e1, hm⟩ := R.of_bind hm
    refine ⟨_, _, rfl, f σ H w ρ L _ _ _ _ ok h e1 fun σ1 ok1 n1 a1 l1 => ?_⟩
    refine f2 σ1 H w ρ1 L _ _ ρ' _ ok1 t hm fun σ2 ok2 n2 a2 l2 => ?_
    exact k σ2 ok2 (n2.trans n1) (fun i hi => (a2 i fun z => hi (List.mem_append_right _ z)).trans (a1 i fun z => hi (List.mem_append_left _ z))) fun i hi => (l2 i hi).trans (l1 i hi)
def gT (n : Nat) (gs : List D → List Nat → Env → R Env) : MG := fun d L ρ => match d with
  | .tup ds => if ds.length = n then gs ds L ρ else .bad
  | _ => .bad
theorem sg_tup {es : List Expr} {k n : Nat} {sl : List Nat} {gs : List D → List Nat → Env → R Env} (hc : X.calm = true) (h : SGs X es sl gs) (hn : (assignEach es X.env).length = n := by rfl) (hst : (assignEach es X.env).findIdx? (·.1) = none := by rfl) :
    SG X (.Tuple es k pos) sl (gT n gs) := by
  obtain ⟨t, p, f⟩ := h.ex
  refine ⟨_, pg_tup hc p hn hst, fun σ H w ρ L d v ρ' Q ok h hm k => ?_⟩
  unfold gT at hm
  split at hm
  · split at hm
    · rename_i hl
      cases h with
      | tup ta fa => exact ⟨_, _, rfl, ta.sq, by rw [← fa.length]; exact hl, f σ H w ρ L _ _ ρ' Q ok fa hm k⟩
    · cases hm
  · cases hm
/-- target = value, the value frozen -/
def mAsg (g : MG) (m : AE) : MS := fun L ρ => do
  let (s, ρ1) ← m ρ
  let (c, ρ2) ← esc s ρ1
  let ρ3 ← g c.d L ρ2
  R.ok (.next, ρ3)
/-! ### loops -/
structure ItD where
  items : List D
  chk : Option Nat
def chkOk (it : ItD) (ρ : Env) : Bool := match it.chk with
  | none => true
  | some i => match ρ.get i with
    | some c => decide (c.k ≤ 1) && decide (c.d = .lst it.items)
    | none => false
abbrev MI := Env → R (ItD × Env)
/-- what an iterator does, as long as its list stands -/
def ItOk (K : PySem.W.Frag) (J : It) (n : Nat) (it : ItD) (σ : L2.St) (H : Hp) (w : OM) : Prop :=
  ∀ (H2 : Hp) (w2 : OM) (σ2 : L2.St) (ρ2 : Env) (j : Nat), Ok K H2 w2 σ2 ρ2 → Step n H w H2 w2 → (∀ i, it.chk = some i → σ2[i]? = σ[i]?) → chkOk it ρ2 = true →
    (∀ d, it.items[j]? = some d → J.go j H2 ∧ ∀ x H3, J.yld j H2 x H3 → ∃ w3, (∀ (σ3 : L2.St) (ρ3 : Env), Ok K H2 w2 σ3 ρ3 → Ok K H3 w3 σ3 ρ3) ∧ (∀ m, Step m H2 w2 H3 w3) ∧ Fz K H3 w3 d x) ∧ (it.items.length ≤ j → J.stop j H2)
structure SI (X : Cx) (tg iter : Expr) (m : MI) : Prop where
  ex : ∃ wi, PI X tg iter wi ∧ ∀ (n : Nat) (σ : L2.St) (H : Hp) (w : OM) (ρ : Env) (it : ItD) (ρ' : Env) (Q : It → Hp → Prop), Ok X.K H w σ ρ → m ρ = .ok (it, ρ') →
    (∀ J H' w', Ok X.K H' w' σ ρ' → Step n H w H' w' → chkOk it ρ' = true → ItOk X.K J 0 it σ H' w' → Q J H') → wi σ H Q
def loopF (it : ItD) (g : MG) (body : MS) (L : List Nat) : List D → Env → R (Fl × Env)
  | [], ρ => .ok (.next, ρ)
  | d :: r, ρ => do
    let ρ1 ← g d L ρ
    let (fl, ρ2) ← body L ρ1
    match fl with
    | .ret c => R.ok (.ret c, ρ2)
    | .brk => R.ok (.next, ρ2)
    | _ => if chkOk it ρ2 then loopF it g body L r ρ2 else R.bad
def mFor (mi : MI) (g : MG) (body : MS) : MS := fun L ρ => do
  let (it, ρ1) ← mi ρ
  loopF it g body (match it.chk with | some i => i :: L | none => L) it.items ρ1
theorem ss_for {tg iter : Expr} {body : List Stmt} {mi : MI} {g : MG} {mb : MS} {sl : List Nat} (hp : PassesOwn (model X.prog X.w) X.A X.env X.xe) (hc : X.calm = true) (hi : SI X tg iter mi) (hg : SG X tg sl g) (hb : SSs X body mb)
    (hs : ∀ x, foldedSetIterable iter X.env x = pure x := by intro _; rfl) : SS X (.For tg iter body [] pos) (mFor mi g mb) := by
  obtain ⟨wi, p, f⟩ := hi.ex
  obtain ⟨tg', q, f2⟩ := hg.ex
  obtain ⟨tb, r, f3⟩ := hb.ex
  refine ⟨_, ps_for hp hc p q r hs, fun n σ H w ρ L fl ρ' D ok hm k => ?_⟩
  obtain ⟨⟨it, ρ1⟩, e1, hm⟩ := R.of_bind hm
  dsimp only at hm e1
  generalize hL : (match it.chk with | some i => i :: L | none => L) = L' at hm
  have hsub : ∀ i ∈ L, i ∈ L' := fun i hi => by
    subst hL
    cases it.chk with
    | none => exact hi
    | some j => exact List.mem_cons_of_mem _ hi
  have hchk : ∀ i, it.chk = some i → i ∈ L' := fun i hi => by
    subst hL
    rw [hi]
    exact List.mem_cons_self ..
  refine f n σ H w ρ it ρ1 _ ok e1 fun J H1 w1 ok1 st1 c1 io => ?_
  refine ⟨fun i m σ2 H2 => m = it.items.length - i ∧ i ≤ it.items.length ∧ ∃ w2 ρ2, Ok X.K H2 w2 σ2 ρ2 ∧ Step n H1 w1 H2 w2 ∧ (∀ j ∈ L', σ2[j]? = σ[j]?) ∧ chkOk it ρ2 = true ∧ loopF it g mb L' (it.items.drop i) ρ2 = .ok (fl, ρ'),
    ⟨_, rfl, Nat.zero_le _, w1, ρ1, ok1, Step.refl, fun _ _ => rfl, c1, hm⟩, ?_⟩
  rintro i m σ2 H2 ⟨rfl, hle, w2, ρ2, ok2, st2, l2, c2, e2⟩
  obtain ⟨go, stop⟩ := io H2 w2 σ2 ρ2 i ok2 (st2.mono (Nat.zero_le n)) (fun j hj => l2 j (hchk j hj)) c2
  by_cases hlt : i < it.items.length
  · obtain ⟨hgo, hy⟩ := go _ (List.getElem?_eq_getElem hlt)
    refine .inr ⟨hgo, fun σ4 H4 => ∃ w4 ρ4, Ok X.K H4 w4 σ4 ρ4 ∧ Step n H1 w1 H4 w4 ∧ (∀ j ∈ L', σ4[j]? = σ[j]?) ∧ chkOk it ρ4 = true ∧ loopF it g mb L' (it.items.drop (i + 1)) ρ4 = .ok (fl, ρ'), ?_, ?_⟩
    · rintro σ4 H4 h4
      exact ⟨it.items.length - (i + 1), by omega, rfl, hlt, h4⟩
    · intro x H3 y
      obtain ⟨w3, ok3f, st3f, fz⟩ := hy x H3 y
      have ok3 := ok3f σ2 ρ2 ok2
      have st3 := st2.trans (st3f n)
      rw [List.drop_eq_getElem_cons hlt] at e2
      obtain ⟨ρ3, e3, e2⟩ := R.of_bind e2
      obtain ⟨⟨fb, ρ4⟩, e4, e2⟩ := R.of_bind e2
      refine f2 σ2 H3 w3 ρ2 L' _ x ρ3 _ ok3 fz e3 fun σ3 ok3' _ _ l3 => ?_
      refine f3 n σ3 H3 w3 ρ3 L' fb ρ4 _ ok3' e4 fun σ4 H4 w4 ok4 st4 l4 => ?_
      have ll : ∀ j ∈ L', σ4[j]? = σ[j]? := fun j hj => (l4 j hj).trans ((l3 j hj).trans (l2 j hj))
      have st14 := st3.trans st4
      have again : (if chkOk it ρ4 = true then loopF it g mb L' (it.items.drop (i + 1)) ρ4 else R.bad) = .ok (fl, ρ') →
          ∃ w4 ρ4, Ok X.K H4 w4 σ4 ρ4 ∧ Step n H1 w1 H4 w4 ∧ (∀ j ∈ L', σ4[j]? = σ[j]?) ∧ chkOk it ρ4 = true ∧ loopF it g mb L' (it.items.drop (i + 1)) ρ4 = .ok (fl, ρ') := fun z => by
        split at z
        · exact ⟨w4, ρ4, ok4, st14, ll, by assumption, z⟩
        · cases z
      cases fb with
      | next => exact again e2
      | cont => exact again e2
      | brk =>
        cases e2
        exact k σ4 H4 w4 ok4 (st1.trans st14) fun j hj => ll j (hsub j hj)
      | ret c =>
        cases e2
        exact k σ4 H4 w4 ok4 (st1.trans st14) fun j hj => ll j (hsub j hj)
  · have e : i = it.items.length := by omega
    subst e
    rw [List.drop_length] at e2
    cases e2
    exact .inl ⟨stop (Nat.le_refl _), k σ2 H2 w2 ok2 (st1.trans st2) fun j hj => l2 j (hsub j hj)⟩
end
end Z

/-! Z: what is walked, comprehensions, calls of defs, methods. -/
namespace Z
open PySem PySem.Spec PyProof.Rows L2

/-! ### what is walked -/
section
variable {X : Cx} {tg : Expr}
def iSeq (K : PySem.W.Frag) (tl : TE) : TI := fun σ H R => tl σ H fun x H1 => (∃ a, x = .ref a ∧ (∃ xs, SqL K H1 a xs) ∧ R (Itl K a) H1) ∨ (∃ a, x = .ref a ∧ (∃ xs, SqT K H1 a xs) ∧ R (Itt K a) H1) ∨ ∃ z, x = .str z ∧ R (Its z) H1
theorem pi_seq {l : Expr} {tl : TE} (hl : PE X l tl) : PI X tg l (iSeq X.K tl) := by
  refine ⟨fun pins s σ H R I h => ?_⟩
  refine thn (hl.run pins s σ H _ I h) fun v s1 ⟨x, H1, I1, r1, q1⟩ => ?_
  rcases q1 with ⟨a, e, ⟨xs, hq⟩, q⟩ | ⟨a, e, ⟨xs, hq⟩, q⟩ | ⟨z, e, q⟩
  · subst e
    cases r1
    obtain ⟨its, rv, p, hz⟩ := I1.list hq
    refine wpAny_pyIter_list p.isList ?_
    refine ⟨s1.heap.objs.size, [s1.heap.objs.size], _, _, H1, rfl, I1.kept (t' := s1.toks) fun b o e => Heap.get?_push_of_some _ e, turn_list a _, ⟨_, Heap.get?_push_size _ rfl, rfl, rfl⟩, fun b hb => ?_, q⟩
    have e : b = s1.heap.objs.size := by simpa using hb
    subst e
    exact I1.fpOk (Nat.le_refl _) (I1.hok.fresh (Nat.le_refl _))
  · subst e
    cases r1
    obtain ⟨its, rv, p, hz⟩ := I1.tuple hq
    refine wpAny_pyIter_tuple (show s1.heap.IsTuple a its.toArray from p) ?_
    refine ⟨s1.heap.objs.size, [s1.heap.objs.size], _, _, H1, rfl, I1.kept (t' := s1.toks) fun b o e => Heap.get?_push_of_some _ e, turn_tuple a _, ⟨_, Heap.get?_push_size _ rfl, rfl, rfl⟩, fun b hb => ?_, q⟩
    have e : b = s1.heap.objs.size := by simpa using hb
    subst e
    exact I1.fpOk (Nat.le_refl _) (I1.hok.fresh (Nat.le_refl _))
  · subst e
    obtain ⟨t, rfl⟩ := r1
    cases ha : z.cps.all (· < 128)
    · exact wpAny_pyIter_wide ha (pi_one (tk := s1.toks) I1 _ (turn_str _ z t "str_iterator" (.inr rfl)) ⟨_, Heap.get?_push_size _ rfl, rfl, rfl⟩ q)
    · exact wpAny_pyIter_ascii ha (pi_one (tk := s1.toks) I1 _ (turn_str _ z t "str_ascii_iterator" (.inl rfl)) ⟨_, Heap.get?_push_size _ rfl, rfl, rfl⟩ q)
def itemsOf : D → Option (List D)
  | .tup l => some l
  | .lst l => some l
  | .scr l => some l
  | .str z => some (z.cps.toList.map fun c => .str ⟨#[c]⟩)
  | _ => none
def mItems (a : AE) : MI := fun ρ => do
  let (s, ρ1) ← a ρ
  match s with
  | .v c => match itemsOf c.d with
    | some l => R.ok (⟨l, none⟩, ρ1)
    | none => R.bad
  | .s i => match ρ1.get i with
    | some ⟨d, 0⟩ => match itemsOf d with
      | some l => R.ok (⟨l, none⟩, ρ1)
      | none => R.bad
    | some ⟨.lst l, 1⟩ => R.ok (⟨l, some i⟩, ρ1)
    | some ⟨.lst l, 2⟩ => R.ok (⟨l, none⟩, ρ1.set i (some ⟨.lst l, 0⟩))
    | _ => R.bad
/-- a frozen datum is walked -/
theorem it_frozen {K : PySem.W.Frag} {n : Nat} {σ : L2.St} {H : Hp} {w : OM} {d : D} {v : V} {l : List D} (h : Fz K H w d v) (e : itemsOf d = some l) :
    (∃ a, v = .ref a ∧ (∃ xs, SqL K H a xs) ∧ ItOk K (Itl K a) n ⟨l, none⟩ σ H w) ∨ (∃ a, v = .ref a ∧ (∃ xs, SqT K H a xs) ∧ ItOk K (Itt K a) n ⟨l, none⟩ σ H w) ∨ ∃ z, v = .str z ∧ ItOk K (Its z) n ⟨l, none⟩ σ H w := by
  have onL : ∀ {a : Addr} {vs : List V}, (∀ (H2 : Hp) (w2 : OM), Step n H w H2 w2 → SqL K H2 a vs ∧ FzL K H2 w2 l vs) → ItOk K (Itl K a) n ⟨l, none⟩ σ H w := fun {a vs} st H2 w2 σ2 ρ2 j ok2 st2 _ _ => by
    obtain ⟨hs, fs⟩ := st H2 w2 st2
    refine ⟨fun d hd => ?_, fun hle => ⟨vs, hs, by rw [← fs.length]; exact hle⟩⟩
    obtain ⟨x, hx, fx⟩ := fs.get hd
    refine ⟨⟨vs, x, hs, hx⟩, fun y H3 ⟨e1, e2⟩ => ?_⟩
    subst e1
    have : y = x := by have := e2 vs hs; rw [hx] at this; exact (Option.some.inj this).symm
    subst this
    exact ⟨w2, fun _ _ h => h, fun _ => Step.refl, fx⟩
  have onT : ∀ {a : Addr} {vs : List V}, (∀ (H2 : Hp) (w2 : OM), Step n H w H2 w2 → SqT K H2 a vs ∧ FzL K H2 w2 l vs) → ItOk K (Itt K a) n ⟨l, none⟩ σ H w := fun {a vs} st H2 w2 σ2 ρ2 j ok2 st2 _ _ => by
    obtain ⟨hs, fs⟩ := st H2 w2 st2
    refine ⟨fun d hd => ?_, fun hle => ⟨vs, hs, by rw [← fs.length]; exact hle⟩⟩
    obtain ⟨x, hx, fx⟩ := fs.get hd
    refine ⟨⟨vs, x, hs, hx⟩, fun y H3 ⟨e1, e2⟩ => ?_⟩
    subst e1
    have : y = x := by have := e2 vs hs; rw [hx] at this; exact (Option.some.inj this).symm
    subst this
    exact ⟨w2, fun _ _ h => h, fun _ => Step.refl, fx⟩
  cases h with
  | tup ta fa => cases e; exact .inr (.inl ⟨_, rfl, ⟨_, ta.sq⟩, onT fun H2 w2 st => ⟨(ta.step (st.kp (o := .no) (.inl rfl))).sq, fa.step (st.kp (o := .no) (.inl rfl))⟩⟩)
  | lst ta na fa => cases e; exact .inl ⟨_, rfl, ⟨_, .inl (.inl ta)⟩, onL fun H2 w2 st => ⟨.inl (.inl (st _ _ ta (by rw [na]; exact .inl rfl)).1), fa.step (st.kp (o := .no) (.inl rfl))⟩⟩
  | scr ta fa => cases e; exact .inl ⟨_, rfl, ⟨_, ta.sq⟩, onL fun H2 w2 st => ⟨(ta.step (st.kp (o := .no) (.inl rfl))).sq, fa.step (st.kp (o := .no) (.inl rfl))⟩⟩
  | str z =>
    cases e
    refine .inr (.inr ⟨z, rfl, fun H2 w2 σ2 ρ2 j ok2 st2 _ _ => ⟨fun d hd => ?_, fun hle => ?_⟩⟩)
    · simp only [List.getElem?_map, Option.map_eq_some_iff] at hd
      obtain ⟨c, hc, rfl⟩ := hd
      have hj : z.cps[j]? = some c := by rw [← Array.getElem?_toList]; exact hc
      refine ⟨(Array.getElem?_eq_some_iff.mp hj).1, fun y H3 ⟨e1, c', e2, e3⟩ => ?_⟩
      subst e1 e3
      rw [hj] at e2
      cases e2
      exact ⟨w2, fun _ _ h => h, fun _ => Step.refl, .str _⟩
    · show z.cps.size ≤ j
      simpa using hle
  | _ => cases e
theorem si_seq {e : Expr} {m : AE} (he : SA X e m) : SI X tg e (mItems m) := by
  obtain ⟨t, p, g⟩ := he.ex
  refine ⟨_, pi_seq p, fun n σ H w ρ it ρ' Q ok hm k => ?_⟩
  obtain ⟨⟨s, ρ1⟩, e1, hm⟩ := R.of_bind hm
  dsimp only at hm
  cases s with
  | v c =>
    dsimp only at hm
    split at hm
    · rename_i l hl
      cases hm
      refine g n σ H w ρ _ _ _ ok e1 fun v H1 w1 ok1 st1 sa => ?_
      have sa : Ow X.K H1 w1 (.tm n) c.k c.d v := sa
      have ok2 : Ok X.K H1 (w1.re (.tm n) .no) σ _ := ok1.re (by intro z; cases z) (by intro i z; cases z)
      have st2 : Step n H w H1 (w1.re (.tm n) .no) := st1.trans (Step.re not_fixed_tm)
      rcases it_frozen (n := 0) (σ := σ) (sa.freeze (by intro z; cases z)) hl with ⟨a, e, hq, io⟩ | ⟨a, e, hq, io⟩ | ⟨z, e, io⟩
      · exact .inl ⟨a, e, hq, k _ H1 _ ok2 st2 rfl io⟩
      · exact .inr (.inl ⟨a, e, hq, k _ H1 _ ok2 st2 rfl io⟩)
      · exact .inr (.inr ⟨z, e, k _ H1 _ ok2 st2 rfl io⟩)
    · cases hm
  | s i =>
    dsimp only at hm
    split at hm
    · rename_i d hd
      split at hm
      · rename_i l hl
        cases hm
        refine g n σ H w ρ _ _ _ ok e1 fun v H1 w1 ok1 st1 sa => ?_
        have sa : σ[i]? = some (some v) := sa
        obtain ⟨u, eu, ow⟩ := ok1.slot i _ hd
        rw [sa] at eu
        cases eu
        have fz : Fz X.K H1 w1 d v := by cases ow with | fz h => exact h
        rcases it_frozen (n := 0) (σ := σ) fz hl with ⟨a, e, hq, io⟩ | ⟨a, e, hq, io⟩ | ⟨z, e, io⟩
        · exact .inl ⟨a, e, hq, k _ H1 _ ok1 st1 rfl io⟩
        · exact .inr (.inl ⟨a, e, hq, k _ H1 _ ok1 st1 rfl io⟩)
        · exact .inr (.inr ⟨z, e, k _ H1 _ ok1 st1 rfl io⟩)
      · cases hm
    · rename_i l hd
      cases hm
      refine g n σ H w ρ _ _ _ ok e1 fun v H1 w1 ok1 st1 sa => ?_
      have sa : σ[i]? = some (some v) := sa
      obtain ⟨u, eu, ow⟩ := ok1.slot i _ hd
      rw [sa] at eu
      cases eu
      obtain ⟨a, vs, rfl, hq, _, _⟩ := ow_lst ow
      refine .inl ⟨a, rfl, ⟨vs, .inl (.inl hq)⟩, k _ H1 _ ok1 st1 (by unfold chkOk; simp [hd]) fun H2 w2 σ2 ρ2 j ok2 st2 lk ck => ?_⟩
      have e3 := lk i rfl
      unfold chkOk at ck
      dsimp only at ck
      split at ck
      · rename_i c2 hc2
        rw [Bool.and_eq_true] at ck
        have k1 : c2.k ≤ 1 := of_decide_eq_true ck.1
        have d1 : c2.d = .lst l := of_decide_eq_true ck.2
        obtain ⟨u2, eu2, ow2⟩ := ok2.slot i _ hc2
        rw [e3, sa] at eu2
        cases eu2
        rw [d1] at ow2
        obtain ⟨a2, ws, ea, hq2, _, f2⟩ := ow_lst ow2
        cases ea
        have fs := f2 k1
        refine ⟨fun d hd => ?_, fun hle => ⟨ws, .inl (.inl hq2), by rw [← fs.length]; exact hle⟩⟩
        obtain ⟨x, hx, fx⟩ := fs.get hd
        refine ⟨⟨ws, x, .inl (.inl hq2), hx⟩, fun y H3 ⟨e1, e2⟩ => ?_⟩
        subst e1
        have : y = x := by have := e2 ws (.inl (.inl hq2)); rw [hx] at this; exact (Option.some.inj this).symm
        subst this
        exact ⟨w2, fun _ _ h => h, fun _ => Step.refl, fx⟩
      · cases ck
    · rename_i l hd
      cases hm
      refine g n σ H w ρ _ _ _ ok e1 fun v H1 w1 ok1 st1 sa => ?_
      have sa : σ[i]? = some (some v) := sa
      obtain ⟨u, eu, ow⟩ := ok1.slot i _ hd
      rw [sa] at eu
      cases eu
      have fz := ow.freeze (by intro z; cases z)
      have ok2 := ok1.freeze hd
      have st2 := st1.trans (Step.re (o' := .no) (not_fixed_sl (n := n) (i := i)))
      rcases it_frozen (n := 0) (σ := σ) fz (l := l) rfl with ⟨a, e, hq, io⟩ | ⟨a, e, hq, io⟩ | ⟨z, e, io⟩
      · exact .inl ⟨a, e, hq, k _ H1 _ ok2 st2 rfl io⟩
      · exact .inr (.inl ⟨a, e, hq, k _ H1 _ ok2 st2 rfl io⟩)
      · exact .inr (.inr ⟨z, e, k _ H1 _ ok2 st2 rfl io⟩)
    · cases hm
/-- the ints a .. b - 1 -/
def rgD (a b : Int) : List D := (List.range (b - a).toNat).map fun i => D.int (a + (i : Nat))
theorem rgD_length (a b : Int) : (rgD a b).length = (b - a).toNat := by unfold rgD; rw [List.length_map, List.length_range]
theorem it_range {K : PySem.W.Frag} {n : Nat} {σ : L2.St} {H : Hp} {w : OM} (a b : Int) : ItOk K (Itr a (b - a).toNat) n ⟨rgD a b, none⟩ σ H w := fun H2 w2 σ2 ρ2 j ok2 st2 _ _ => by
  refine ⟨fun d hd => ?_, fun hle => by rw [rgD_length] at hle; exact hle⟩
  unfold rgD at hd
  simp only [List.getElem?_map, Option.map_eq_some_iff] at hd
  obtain ⟨i, hi, rfl⟩ := hd
  rw [List.getElem?_eq_some_iff] at hi
  obtain ⟨hj, hi⟩ := hi
  rw [List.length_range] at hj
  rw [List.getElem_range] at hi
  subst hi
  refine ⟨hj, fun x H3 ⟨e1, e2⟩ => ?_⟩
  subst e1 e2
  exact ⟨w2, fun _ _ h => h, fun _ => Step.refl, .int _⟩
def rgB (a b : Int) : Bool := decide (-(2 ^ 62) ≤ a ∧ a < 2 ^ 62 ∧ -(2 ^ 62) ≤ b ∧ b < 2 ^ 62)
def mRange1 (a : AE) : MI := fun ρ => do
  let (s, ρ1) ← a ρ
  match s.cell ρ1 with
  | some ⟨.int j, _⟩ => if rgB 0 j then R.ok (⟨rgD 0 j, none⟩, ρ1) else R.bad
  | _ => R.bad
def mRange2 (a b : AE) : MI := fun ρ => do
  let (s, ρ1) ← a ρ
  let (u, ρ2) ← b ρ1
  match s.cell ρ2, u.cell ρ2 with
  | some ⟨.int i, _⟩, some ⟨.int j, _⟩ => if rgB i j then R.ok (⟨rgD i j, none⟩, ρ2) else R.bad
  | _, _ => R.bad
theorem si_range1 {a : Expr} {m : AE} {p pos : Pos} (hm : X.mg "range" = none) (ha : SA X a m) (hg : Gl X "range" := by rfl) (hs : starEach [a] X.env = [(false, eval a X.env)] := by rfl) (he : starEach [a] X.env = (false, eval a X.env) :: starEach [] X.env := by rfl) :
    SI X tg (.Call (.Name "range" p) [a] [] pos) (mRange1 m) := by
  obtain ⟨t, q, g⟩ := ha.ex
  refine ⟨_, pi_range1 hg hm (pa_cons q pa_nil he) hs, fun n σ H w ρ it ρ' Q ok hm k => ?_⟩
  obtain ⟨⟨s, ρ1⟩, e1, hm⟩ := R.of_bind hm
  dsimp only at hm
  split at hm
  · rename_i j _ hc
    split at hm
    · rename_i hb
      cases hm
      refine g n σ H w ρ s _ _ ok e1 fun v H1 w1 ok1 st1 sa => ?_
      obtain ⟨o, _, h1⟩ := sa.cell ok1 hc
      cases ow_int h1
      have hb := of_decide_eq_true hb
      refine ⟨j, rfl, hb.2.2.1, hb.2.2.2, k _ H1 w1 ok1 st1 rfl ?_⟩
      have := it_range (K := X.K) (n := 0) (σ := σ) (H := H1) (w := w1) 0 j
      rw [Int.sub_zero] at this
      exact this
    · cases hm
  · cases hm
theorem si_range2 {a b : Expr} {m m2 : AE} {p pos : Pos} (hm : X.mg "range" = none) (ha : SA X a m) (hb : SA X b m2) (hg : Gl X "range" := by rfl) (hs : starEach [a, b] X.env = [(false, eval a X.env), (false, eval b X.env)] := by rfl) (hs2 : starEach [b] X.env = [(false, eval b X.env)] := by rfl)
    (he : starEach [a, b] X.env = (false, eval a X.env) :: starEach [b] X.env := by rfl) (he2 : starEach [b] X.env = (false, eval b X.env) :: starEach [] X.env := by rfl) :
    SI X tg (.Call (.Name "range" p) [a, b] [] pos) (mRange2 m m2) := by
  obtain ⟨t, q, g⟩ := ha.ex
  obtain ⟨t2, q2, g2⟩ := hb.ex
  refine ⟨_, pi_range2 hg hm (pa_cons q (pa_cons q2 pa_nil he2) he) hs hs2, fun n σ H w ρ it ρ' Q ok hm k => ?_⟩
  obtain ⟨⟨s, ρ1⟩, e1, hm⟩ := R.of_bind hm
  obtain ⟨⟨u, ρ2⟩, e2, hm⟩ := R.of_bind hm
  dsimp only at hm e2
  split at hm
  · rename_i i _ j _ hc hd
    split at hm
    · rename_i hb
      cases hm
      refine g n σ H w ρ s _ _ ok e1 fun v H1 w1 ok1 st1 sa => ?_
      refine g2 (n + 1) σ H1 w1 ρ1 u _ _ ok1 e2 fun v2 H2 w2 ok2 st2 sa2 => ?_
      obtain ⟨o, _, h1⟩ := (sa.step st2 (Nat.lt_succ_self n)).cell ok2 hc
      obtain ⟨o2, _, h2⟩ := sa2.cell ok2 hd
      cases ow_int h1
      cases ow_int h2
      have hb := of_decide_eq_true hb
      exact ⟨i, j, rfl, hb, k _ H2 w2 ok2 (st1.trans (st2.mono (Nat.le_succ n))) rfl (it_range i j)⟩
    · cases hm
  · cases hm

/-! ### list(range(..)), tuple(range(..)) -/
structure SRg (X : Cx) (e : Expr) (m : Env → R ((Int × Int) × Env)) : Prop where
  ex : ∃ t, PRg X e t ∧ ∀ (n : Nat) (σ : L2.St) (H : Hp) (w : OM) (ρ : Env) (a b : Int) (ρ' : Env) (Q : Int → Int → Hp → Prop), Ok X.K H w σ ρ → m ρ = .ok ((a, b), ρ') →
    (∀ H' w', Ok X.K H' w' σ ρ' → Step n H w H' w' → Q a b H') → t σ H Q
def mRg1 (a : AE) : Env → R ((Int × Int) × Env) := fun ρ => do
  let (s, ρ1) ← a ρ
  match s.cell ρ1 with
  | some ⟨.int j, _⟩ => R.ok ((0, j), ρ1)
  | _ => R.bad
theorem srg_1 {a : Expr} {m : AE} {p pos : Pos} (hm : X.mg "range" = none) (ha : SA X a m) (hg : Gl X "range" := by rfl) (na : starEach [a] X.env = (false, eval a X.env) :: starEach [] X.env := by rfl) : SRg X (.Call (.Name "range" p) [a] [] pos) (mRg1 m) := by
  obtain ⟨t, q, g⟩ := ha.ex
  refine ⟨_, prg_1 hg hm q na, fun n σ H w ρ a b ρ' Q ok hm k => ?_⟩
  obtain ⟨⟨s, ρ1⟩, e1, hm⟩ := R.of_bind hm
  dsimp only at hm
  split at hm
  · rename_i j _ hc
    cases hm
    refine g n σ H w ρ s _ _ ok e1 fun v H1 w1 ok1 st1 sa => ?_
    obtain ⟨o, _, h1⟩ := sa.cell ok1 hc
    cases ow_int h1
    exact ⟨_, rfl, k H1 w1 ok1 st1⟩
  · cases hm
def rgOkB (a b : Int) : Bool := rgB a b && decide ((b - a).toNat ≤ 16777216)
theorem rgOkB_ok {a b : Int} (h : rgOkB a b = true) : RgOk a b := by
  unfold rgOkB rgB at h
  simp only [Bool.and_eq_true, decide_eq_true_eq] at h
  exact ⟨h.1.1, h.1.2.1, h.1.2.2.1, h.1.2.2.2, h.2⟩
theorem rg_fz {K : PySem.W.Frag} {H : Hp} {w : OM} (a b : Int) : FzL K H w (rgD a b) (rgV a b) := by
  unfold rgD rgV
  generalize (List.range (b - a).toNat) = l
  induction l with
  | nil => exact .nil
  | cons x r ih => exact .cons (.int _) ih
def mListRg (m : Env → R ((Int × Int) × Env)) : AE := fun ρ => do
  let (x, ρ1) ← m ρ
  if rgOkB x.1 x.2 then R.ok (.v ⟨.lst (rgD x.1 x.2), 1⟩, ρ1) else R.bad
def mTupRg (m : Env → R ((Int × Int) × Env)) : AE := fun ρ => do
  let (x, ρ1) ← m ρ
  if rgOkB x.1 x.2 then R.ok (.v (Cell.fz (.tup (rgD x.1 x.2))), ρ1) else R.bad
theorem sa_listRg {e : Expr} {m : Env → R ((Int × Int) × Env)} {p pos : Pos} (hc : X.calm = true) (hm : X.mg "list" = none) (h : SRg X e m) (hg : Gl X "list" := by rfl) (na : starEach [e] X.env = (false, eval e X.env) :: starEach [] X.env := by rfl) : SA X (.Call (.Name "list" p) [e] [] pos) (mListRg m) := by
  obtain ⟨t, q, g⟩ := h.ex
  refine ⟨_, pe_listRg hc hg hm q na, fun n σ H w ρ s ρ' Q ok hm k => ?_⟩
  obtain ⟨⟨⟨a, b⟩, ρ1⟩, e1, hm⟩ := R.of_bind hm
  dsimp only at hm
  split at hm
  · rename_i hb
    cases hm
    refine g n σ H w ρ a b _ _ ok e1 fun H1 w1 ok1 st1 => ⟨rgOkB_ok hb, fun p hp => ?_⟩
    exact k _ _ (w1.put p (.tm n)) (ok1.new hp _) (st1.trans (Step.new hp)) (.lst upd_same OM.put_same (rg_fz a b))
  · cases hm
/-! ### isinstance -/
def isT (T : String) : D → Option Bool
  | .non => if T = "int" ∨ T = "str" ∨ T = "tuple" ∨ T = "list" ∨ T = "bool" ∨ T = "dict" then some false else none
  | .bl _ => if T = "int" ∨ T = "bool" then some true else if T = "str" ∨ T = "tuple" ∨ T = "list" ∨ T = "dict" then some false else none
  | .int _ => if T = "int" then some true else if T = "str" ∨ T = "tuple" ∨ T = "list" ∨ T = "bool" ∨ T = "dict" then some false else none
  | .str _ => if T = "str" then some true else if T = "int" ∨ T = "tuple" ∨ T = "list" ∨ T = "bool" ∨ T = "dict" then some false else none
  | .tup _ => if T = "tuple" then some true else if T = "int" ∨ T = "str" ∨ T = "list" ∨ T = "bool" ∨ T = "dict" then some false else none
  | .lst _ => if T = "list" then some true else if T = "int" ∨ T = "str" ∨ T = "tuple" ∨ T = "bool" ∨ T = "dict" then some false else none
  | _ => none
def fIsi (T : String) : List Cell → R Cell
  | [c] => match isT T c.d with
    | some b => .ok (Cell.fz (.bl b))
    | none => .bad
  | _ => .bad
def tyN : D → String
  | .non => "NoneType"
  | .bl _ => "bool"
  | .int _ => "int"
  | .str _ => "str"
  | .tup _ => "tuple"
  | .lst _ => "list"
  | .scr _ => "list"
  | .dct _ _ => "dict"
theorem kit_two {T t : String} {b x y : Bool} {P Q : Prop} [Decidable P] [Decidable Q] (e : (if P then some x else if Q then some y else none) = some b) (hp : P → kitB t T = some x) (hq : Q → kitB t T = some y) : kitB t T = some b := by
  split at e
  · cases e; exact hp (by assumption)
  · split at e
    · cases e; exact hq (by assumption)
    · cases e
theorem isT_ok {T : String} {d : D} {b : Bool} (e : isT T d = some b) : kitB (tyN d) T = some b := by
  cases d with
  | non =>
    dsimp only [isT] at e
    dsimp only [tyN]
    split at e
    · rename_i h
      cases e
      rcases h with rfl | rfl | rfl | rfl | rfl | rfl <;> decide +kernel
    · cases e
  | bl x =>
    dsimp only [isT] at e
    dsimp only [tyN]
    refine kit_two e (fun h => ?_) fun h => ?_
    · rcases h with rfl | rfl <;> decide +kernel
    · rcases h with rfl | rfl | rfl | rfl <;> decide +kernel
  | int x =>
    dsimp only [isT] at e
    dsimp only [tyN]
    refine kit_two e (fun h => ?_) fun h => ?_
    · subst h; decide +kernel
    · rcases h with rfl | rfl | rfl | rfl | rfl <;> decide +kernel
  | str x =>
    dsimp only [isT] at e
    dsimp only [tyN]
    refine kit_two e (fun h => ?_) fun h => ?_
    · subst h; decide +kernel
    · rcases h with rfl | rfl | rfl | rfl | rfl <;> decide +kernel
  | tup x =>
    dsimp only [isT] at e
    dsimp only [tyN]
    refine kit_two e (fun h => ?_) fun h => ?_
    · subst h; decide +kernel
    · rcases h with rfl | rfl | rfl | rfl | rfl <;> decide +kernel
  | lst x =>
    dsimp only [isT] at e
    dsimp only [tyN]
    refine kit_two e (fun h => ?_) fun h => ?_
    · subst h; decide +kernel
    · rcases h with rfl | rfl | rfl | rfl | rfl <;> decide +kernel
  | _ => cases e
theorem ow_ty {K : PySem.W.Frag} {H : Hp} {w : OM} {o : Own} {k : Nat} {T : String} {d : D} {v : V} {b : Bool} (h : Ow K H w o k d v) (e : isT T d = some b) : TyX K H v (.type (tyN d)) := by
  cases d with
  | non => cases ow_non h; exact .base .non
  | bl x => cases ow_bl h; exact .base (.bl _)
  | int x => cases ow_int h; exact .base (.int _)
  | str x => cases ow_str h; exact .base (.str _)
  | tup l =>
    obtain ⟨a, xs, rfl, ta, fa⟩ := ow_tup h
    rcases ta with ⟨⟨q, ta, _⟩, _⟩ | ⟨ob, its, n, hk, hc, _⟩
    · exact .fTuple ta
    · exact .kTuple hk hc
  | lst l =>
    obtain ⟨a, xs, rfl, ta, _⟩ := ow_lst h
    exact .base (.lst ta)
  | _ => cases e
/-- isinstance(e, T), T a built-in type's name -/
theorem sa_isi {T : String} {e : Expr} {m : AE} {p q pos : Pos} (hm : X.mg "isinstance" = none) (hmT : X.mg (Str.ofString T) = none) (ha : SA X e m) (hv : bootBuiltins (Str.ofString T) = some (.type T)) (hg : Gl X "isinstance" := by rfl) (hgT : Gl X (Str.ofString T) := by rfl)
    (hn : (Str.ofString T) ≠ "__name__" := by decide) (hd : ((Str.ofString T) == ("__debug__" : Str)) = false := by decide)
    (he : starEach (e :: [.Name (Str.ofString T) q]) X.env = (false, eval e X.env) :: starEach [.Name (Str.ofString T) q] X.env := by rfl) (he2 : starEach [.Name (Str.ofString T) q] X.env = (false, eval (.Name (Str.ofString T) q) X.env) :: starEach [] X.env := by rfl)
    (hpl : (backTo pos (starEach [.Name (Str.ofString T) q] X.env)).any (·.1) = false := by rfl) : SA X (.Call (.Name "isinstance" p) [e, .Name (Str.ofString T) q] [] pos) (mPrim (fIsi T) [m]) := by
  obtain ⟨t, pe, g⟩ := ha.ex
  refine ⟨_, pe_callB call_isi hg hm (by decide +kernel) (pa_cons pe (pa_cons (pe_bltn (v := .ty T) (u := .type T) hgT hmT hv rfl hn hd) pa_nil he2) he) (by decide) (by decide) he hpl, fun n σ H w ρ s ρ' Q ok hm k => ?_⟩
  obtain ⟨ss, cs, c, e1, e2, e3, rfl⟩ := mPrim_ok hm
  obtain ⟨⟨s1, ρ1⟩, f1, e1⟩ := R.of_bind e1
  cases e1
  refine g n σ H w ρ s1 _ _ ok f1 fun v H1 w1 ok1 st1 sa => ?_
  have ow := SrcsAt.cells (n := n) (ss := [s1]) (vs := [v]) ok1 ⟨sa, trivial⟩ e2
  unfold fIsi at e3
  split at e3
  · rename_i c1
    split at e3
    · rename_i b hb
      cases e3
      obtain ⟨v', o, ev, h1⟩ := ow.one
      cases ev
      exact ⟨v, .ty T, _, _, b, rfl, .ty T, ow_ty h1 hb, kit_ty (isT_ok hb), k _ H1 w1 ok1 st1 (.fz (.bl _))⟩
    · cases e3
  · cases e3
end
end Z

/-! Z: comprehensions. -/
namespace Z
open PySem PySem.Spec PyProof.Rows L2

/-! ### readings that hang on what is reckoned alone -/
def rdE (K : PySem.W.Frag) (m : AE) : TE := fun σ H Q => ∃ (n : Nat) (w : OM) (ρ : Env) (s : Src) (ρ' : Env), Ok K H w σ ρ ∧ m ρ = .ok (s, ρ') ∧ ∀ v H' w', Ok K H' w' σ ρ' → Step n H w H' w' → SrcAt K H' w' σ n s v → Q v H'
def rdT (K : PySem.W.Frag) (m : MT) : TT := fun σ H Q => ∃ (n : Nat) (w : OM) (ρ : Env) (b : Bool) (ρ' : Env), Ok K H w σ ρ ∧ m ρ = .ok (b, ρ') ∧ ∀ H' w', Ok K H' w' σ ρ' → Step n H w H' w' → Q b H'
def rdG (K : PySem.W.Frag) (sl : List Nat) (m : MG) : TG := fun v σ H Q => ∃ (w : OM) (ρ : Env) (L : List Nat) (d : D) (ρ' : Env), Ok K H w σ ρ ∧ Fz K H w d v ∧ m d L ρ = .ok ρ' ∧
  ∀ σ', Ok K H w σ' ρ' → σ'.length = σ.length → (∀ i, i ∉ sl → σ'[i]? = σ[i]?) → (∀ i ∈ L, σ'[i]? = σ[i]?) → Q σ' H
section
variable {X : Cx}
theorem SA.rd {e : Expr} {m : AE} (h : SA X e m) : PE X e (rdE X.K m) := by
  obtain ⟨t, p, g⟩ := h.ex
  exact ⟨fun pins s σ H Q I ⟨n, w, ρ, s', ρ', ok, hm, k⟩ => p.run pins s σ H Q I (g n σ H w ρ s' ρ' Q ok hm k)⟩
theorem SG.rd {e : Expr} {sl : List Nat} {m : MG} (h : SG X e sl m) : PG X e (rdG X.K sl m) := by
  obtain ⟨t, p, g⟩ := h.ex
  exact ⟨fun pins s σ H v u Q I r ⟨w, ρ, L, d, ρ', ok, fz, hm, k⟩ => p.run pins s σ H v u Q I r (g σ H w ρ L d v ρ' Q ok fz hm k)⟩
structure STs (X : Cx) (ifs : List Expr) (m : MT) : Prop where
  ex : ∃ t, PTs X ifs t ∧ ∀ (n : Nat) (σ : L2.St) (H : Hp) (w : OM) (ρ : Env) (b : Bool) (ρ' : Env) (Q : Bool → Hp → Prop), Ok X.K H w σ ρ → m ρ = .ok (b, ρ') →
    (∀ H' w', Ok X.K H' w' σ ρ' → Step n H w H' w' → Q b H') → t σ H Q
theorem STs.rd {ifs : List Expr} {m : MT} (h : STs X ifs m) : PTs X ifs (rdT X.K m) := by
  obtain ⟨t, p, g⟩ := h.ex
  exact ⟨fun pins s σ H Q I ⟨n, w, ρ, b, ρ', ok, hm, k⟩ => p.run pins s σ H Q I (g n σ H w ρ b ρ' Q ok hm k)⟩
def mYes : MT := fun ρ => .ok (true, ρ)
theorem sts_nil : STs X [] mYes := ⟨_, pts_nil, fun n σ H w ρ b ρ' Q ok hm k => by
  cases hm
  exact k H w ok Step.refl⟩
theorem sts_one {c : Expr} {m : MT} (h : ST X c m) : STs X [c] m := by
  obtain ⟨t, p, g⟩ := h.ex
  exact ⟨t, pts_one p, g⟩

def wipeE (ρ : Env) : List Nat → Env
  | [] => ρ
  | i :: r => (wipeE ρ r).set i none
def restore (ρ ρ0 : Env) : List Nat → Env
  | [] => ρ
  | i :: r => (restore ρ ρ0 r).set i (ρ0.get i)
def ownOk (ρ : Env) (vs : List Nat) : Bool := vs.all fun i => match ρ.get i with
  | some c => decide (c.k = 0)
  | none => true
theorem wipeE_length (ρ : Env) : ∀ vs, (wipeE ρ vs).length = ρ.length
  | [] => rfl
  | i :: r => by rw [wipeE, Env.length_set, wipeE_length ρ r]
theorem restore_length (ρ ρ0 : Env) : ∀ vs, (restore ρ ρ0 vs).length = ρ.length
  | [] => rfl
  | i :: r => by rw [restore, Env.length_set, restore_length ρ ρ0 r]
theorem wipeE_get {ρ : Env} {i : Nat} {c : Cell} : ∀ {vs : List Nat}, (wipeE ρ vs).get i = some c → ρ.get i = some c ∧ i ∉ vs
  | [], h => ⟨h, by simp⟩
  | j :: r, h => by
    rcases Env.get_set h with ⟨_, z⟩ | ⟨hj, z⟩
    · cases z
    · obtain ⟨h1, h2⟩ := wipeE_get z
      exact ⟨h1, by simp [hj, h2]⟩
theorem restore_get {ρ ρ0 : Env} {i : Nat} {c : Cell} : ∀ {vs : List Nat}, (restore ρ ρ0 vs).get i = some c → (i ∉ vs ∧ ρ.get i = some c) ∨ (i ∈ vs ∧ ρ0.get i = some c)
  | [], h => .inl ⟨by simp, h⟩
  | j :: r, h => by
    rcases Env.get_set h with ⟨e, z⟩ | ⟨hj, z⟩
    · subst e; exact .inr ⟨by simp, z⟩
    · rcases restore_get z with ⟨h1, h2⟩ | ⟨h1, h2⟩
      · exact .inl ⟨by simp [hj, h1], h2⟩
      · exact .inr ⟨by simp [h1], h2⟩
theorem wipe_get {σ : L2.St} {i : Nat} : ∀ {vs : List Nat}, (wipe σ vs)[i]? = if i ∈ vs then (σ[i]?).map (fun _ => none) else σ[i]?
  | [] => by simp [wipe]
  | j :: r => by
    rw [wipe]
    by_cases e : j = i
    · subst e
      rw [if_pos (by simp)]
      by_cases hl : j < σ.length
      · rw [List.getElem?_set_self (by rw [wipe_length]; exact hl), List.getElem?_eq_getElem hl]; rfl
      · rw [List.getElem?_eq_none (by rw [List.length_set, wipe_length]; omega), List.getElem?_eq_none (by omega)]; rfl
    · rw [List.getElem?_set_ne e, wipe_get]
      have : (i ∈ j :: r) ↔ (i ∈ r) := by simp [Ne.symm e]
      simp only [this]
theorem wipe_eq {σ σ2 : L2.St} {vs : List Nat} (hl : σ2.length = σ.length) (h : ∀ i, i ∉ vs → σ2[i]? = (wipe σ vs)[i]?) : wipe σ2 vs = wipe σ vs := by
  refine List.ext_getElem? fun i => ?_
  rw [wipe_get]
  by_cases hi : i ∈ vs
  · rw [if_pos hi, wipe_get, if_pos hi]
    by_cases h' : i < σ.length
    · rw [List.getElem?_eq_getElem h', List.getElem?_eq_getElem (by omega)]; rfl
    · rw [List.getElem?_eq_none (by omega), List.getElem?_eq_none (by omega)]
  · rw [if_neg hi]; exact h i hi
section
variable {K : PySem.W.Frag} {H : Hp} {w : OM} {σ : L2.St} {ρ : Env}
theorem Ok.wipe (ok : Ok K H w σ ρ) (vs : List Nat) : Ok K H w (L2.wipe σ vs) (wipeE ρ vs) := by
  refine ⟨by rw [wipe_length, wipeE_length]; exact ok.len, fun i c h => ?_, ok.live⟩
  obtain ⟨h1, h2⟩ := wipeE_get h
  obtain ⟨v, e, q⟩ := ok.slot i c h1
  exact ⟨v, by rw [wipe_get, if_neg h2]; exact e, q⟩
theorem Ok.wipe2 {σ0 : L2.St} {vs : List Nat} (ok : Ok K H w σ ρ) (hw : L2.wipe σ vs = L2.wipe σ0 vs) : Ok K H w (L2.wipe σ0 vs) (wipeE ρ vs) := by
  rw [← hw]; exact ok.wipe vs
theorem Ok.write {p : Addr} {u : HO} {n : Nat} (ok : Ok K H w σ ρ) (hp : w p = .tm n) : Ok K (upd H p u) w σ ρ := by
  refine ⟨ok.len, fun i c h => ?_, fun a h => ?_⟩
  · obtain ⟨v, e, q⟩ := ok.slot i c h
    exact ⟨v, e, q.step (Kp.write (by rw [hp]; intro z; cases z) (by rw [hp]; intro z; cases z))⟩
  · by_cases z : a = p
    · subst z; rw [upd_same]; exact fun q => nomatch q
    · rw [upd_ne z]; exact ok.live a h
end
def loopC (it : ItD) (g : MG) (tt : MT) (me : AE) (vs : List Nat) : List D → Env → R (List D × Env)
  | [], ρ => .ok ([], ρ)
  | d :: r, ρ => do
    let ρa ← g d [] ρ
    let (b, ρb) ← tt ρa
    if b then do
      let (s, ρc) ← me ρb
      let (c, ρd) ← esc s ρc
      if chkOk it (wipeE ρd vs) then do
        let (acc, ρe) ← loopC it g tt me vs r (wipeE ρd vs)
        R.ok (c.d :: acc, ρe)
      else R.bad
    else if chkOk it (wipeE ρb vs) then loopC it g tt me vs r (wipeE ρb vs) else R.bad
def mComp (mi : MI) (g : MG) (tt : MT) (me : AE) (vs : List Nat) : AE := fun ρ => do
  let (it, ρ1) ← mi ρ
  if ownOk ρ1 vs && decide (it.items.length ≤ 16777216) && chkOk it (wipeE ρ1 vs) then do
    let (acc, ρ2) ← loopC it g tt me vs it.items (wipeE ρ1 vs)
    R.ok (.v ⟨.lst acc, 1⟩, restore ρ2 ρ1 vs)
  else R.bad
theorem lc_sem {tg : Expr} {wi : TI} {mi : MI} {g : MG} {tt : MT} {me : AE} {sl vs : List Nat} (hsl : ∀ i ∈ sl, i ∈ vs)
    (f : ∀ (n : Nat) (σ : L2.St) (H : Hp) (w : OM) (ρ : Env) (it : ItD) (ρ' : Env) (Q : It → Hp → Prop), Ok X.K H w σ ρ → mi ρ = .ok (it, ρ') →
      (∀ J H' w', Ok X.K H' w' σ ρ' → Step n H w H' w' → chkOk it ρ' = true → ItOk X.K J 0 it σ H' w' → Q J H') → wi σ H Q) :
    ∀ (n : Nat) (σ : L2.St) (H : Hp) (w : OM) (ρ : Env) (s : Src) (ρ' : Env) (Q : VK), Ok X.K H w σ ρ → mComp mi g tt me vs ρ = .ok (s, ρ') →
    (∀ v H' w', Ok X.K H' w' σ ρ' → Step n H w H' w' → SrcAt X.K H' w' σ n s v → Q v H') → tLc wi (rdG X.K sl g) (rdT X.K tt) (rdE X.K me) vs σ H Q := by
  intro n σ H w ρ s ρ' Q ok hm k
  obtain ⟨⟨it, ρ1⟩, e1, hm⟩ := R.of_bind hm
  dsimp only at hm
  split at hm
  · rename_i hc
    obtain ⟨⟨total, ρ2⟩, e2, hm⟩ := R.of_bind hm
    cases hm
    simp only [Bool.and_eq_true, decide_eq_true_eq] at hc
    obtain ⟨⟨hown, hlen⟩, hck⟩ := hc
    refine f n σ H w ρ it ρ1 _ ok e1 fun J H1 w1 ok1 st1 c1 io => ?_
    intro D hD
    have ok2 : Ok X.K (upd H1 D (.lst [])) (w1.put D (.tm n)) σ ρ1 := ok1.new hD _
    have st2 : Step n H1 w1 (upd H1 D (.lst [])) (w1.put D (.tm n)) := Step.new hD
    refine ⟨fun i m H2 => m = it.items.length - i ∧ i ≤ it.items.length ∧ ∃ w2 ρ3 acc accV rest, Ok X.K H2 w2 (L2.wipe σ vs) ρ3 ∧ Step n H1 w1 H2 w2 ∧ chkOk it ρ3 = true ∧ loopC it g tt me vs (it.items.drop i) ρ3 = .ok (rest, ρ2) ∧
        acc ++ rest = total ∧ acc.length ≤ i ∧ H2 D = some (.lst accV) ∧ w2 D = .tm n ∧ FzL X.K H2 w2 acc accV,
      ⟨_, rfl, Nat.zero_le _, _, _, [], [], total, ok2.wipe vs, st2, hck, e2, rfl, Nat.le_refl _, upd_same, OM.put_same, .nil⟩, ?_⟩
    rintro i m H2 ⟨rfl, hle, w2, ρ3, acc, accV, rest, ok3, st3, ck3, e3, et, hla, hDa, hwD, fa⟩
    obtain ⟨go, stop⟩ := io H2 w2 (L2.wipe σ vs) ρ3 i ok3 (st3.mono (Nat.zero_le n)) (fun j hj => by
      unfold chkOk at ck3
      rw [hj] at ck3
      dsimp only at ck3
      split at ck3
      · rename_i c hc
        obtain ⟨v, ev, _⟩ := ok3.slot j c hc
        rw [ev]
        exact (wipe_some ev).1.symm
      · cases ck3) ck3
    by_cases hlt : i < it.items.length
    · obtain ⟨hgo, hy⟩ := go _ (List.getElem?_eq_getElem hlt)
      rw [List.drop_eq_getElem_cons hlt] at e3
      obtain ⟨ρa, ea, e3⟩ := R.of_bind e3
      obtain ⟨⟨b, ρb⟩, eb, e3⟩ := R.of_bind e3
      refine .inr ⟨hgo, fun H4 => ∃ w4 ρ4 acc accV rest, Ok X.K H4 w4 (L2.wipe σ vs) ρ4 ∧ Step n H1 w1 H4 w4 ∧ chkOk it ρ4 = true ∧ loopC it g tt me vs (it.items.drop (i + 1)) ρ4 = .ok (rest, ρ2) ∧
        acc ++ rest = total ∧ acc.length ≤ i + 1 ∧ H4 D = some (.lst accV) ∧ w4 D = .tm n ∧ FzL X.K H4 w4 acc accV, ?_, ?_⟩
      · rintro H4 h4
        exact ⟨it.items.length - (i + 1), by omega, rfl, hlt, h4⟩
      · intro x H3 y
        obtain ⟨w3, ok3f, st3f, fz⟩ := hy x H3 y
        have ok4 := ok3f _ _ ok3
        refine ⟨w3, ρ3, [], _, ρa, ok4, fz, ea, fun σ2 ok5 n5 a5 _ => ?_⟩
        have hwp : L2.wipe σ2 vs = L2.wipe σ vs := wipe_eq (by rw [n5, wipe_length]) fun j hj => a5 j fun z => hj (hsl j z)
        refine ⟨hwp, n + 1, w3, ρa, b, ρb, ok5, eb, fun H5 w5 ok6 st6 => ?_⟩
        have D3 := st3f (n + 1) D _ hDa (by rw [hwD]; exact .inr (.inr ⟨n, Nat.lt_succ_self n, rfl⟩))
        have hw3 : w3 D = .tm n := D3.2.trans hwD
        have D5 := st6 D _ D3.1 (by rw [hw3]; exact .inr (.inr ⟨n, Nat.lt_succ_self n, rfl⟩))
        have hw5 : w5 D = .tm n := D5.2.trans hw3
        have fa3 := (st3f 0).kp (o := .no) (.inl rfl)
        have fa5 : FzL X.K H5 w5 acc accV := (fa.step fa3).step (st6.kp (o := .no) (.inl rfl))
        have st5 : Step n H1 w1 H5 w5 := (st3.trans (st3f n)).trans (st6.mono (Nat.le_succ n))
        cases b with
        | false =>
          have e3 : (if chkOk it (wipeE ρb vs) = true then loopC it g tt me vs (it.items.drop (i + 1)) (wipeE ρb vs) else R.bad) = .ok (rest, ρ2) := e3
          split at e3
          · exact iteF ⟨w5, wipeE ρb vs, acc, accV, rest, ok6.wipe2 hwp, st5, by assumption, e3, et, by omega, D5.1, hw5, fa5⟩
          · cases e3
        | true =>
          obtain ⟨⟨s1, ρc⟩, ec, e3⟩ := R.of_bind (show (me ρb >>= _) = _ from e3)
          obtain ⟨⟨c, ρd⟩, ed, e3⟩ := R.of_bind e3
          dsimp only at e3
          split at e3
          · rename_i hck2
            obtain ⟨⟨rest2, ρe⟩, er, e3⟩ := R.of_bind e3
            cases e3
            refine iteT ⟨n + 1, w5, ρb, s1, ρc, ok6, ec, fun v H6 w6 ok7 st7 sa => ?_⟩
            obtain ⟨w7, ok8, st8, ow, kp8⟩ := esc_ok ok7 sa ed
            have D6 := st7 D _ D5.1 (by rw [hw5]; exact .inr (.inr ⟨n, Nat.lt_succ_self n, rfl⟩))
            have hw6 : w6 D = .tm n := D6.2.trans hw5
            have D7 := st8 (n + 1) D _ D6.1 (by rw [hw6]; exact .inr (.inr ⟨n, Nat.lt_succ_self n, rfl⟩))
            have hw7 : w7 D = .tm n := D7.2.trans hw6
            have hw8 : (w7.re (.tm (n + 1)) .no) D = .tm n := by rw [OM.re_ne (by rw [hw7]; intro z; cases z)]; exact hw7
            have ok9 : Ok X.K H6 (w7.re (.tm (n + 1)) .no) σ2 ρd := ok8.re (by intro z; cases z) (by intro i z; cases z)
            have fz9 : Fz X.K H6 (w7.re (.tm (n + 1)) .no) c.d v := ow.freeze (by intro z; cases z)
            have st9 : Step (n + 1) H5 w5 H6 (w7.re (.tm (n + 1)) .no) := (st7.trans (st8 _)).trans (Step.re not_fixed_tm)
            have fa9 : FzL X.K H6 (w7.re (.tm (n + 1)) .no) acc accV := fa5.step (st9.kp (o := .no) (.inl rfl))
            have hla9 : accV.length = acc.length := fa9.length.symm
            have kpw : Kp .no H6 (w7.re (.tm (n + 1)) .no) (upd H6 D (.lst (accV ++ [v]))) (w7.re (.tm (n + 1)) .no) := Kp.write (by rw [hw8]; intro z; cases z) (by rw [hw8]; intro z; cases z)
            refine ⟨accV, D6.1, by rw [sizeLine_eq, hla9]; omega, w7.re (.tm (n + 1)) .no, wipeE ρd vs, acc ++ [c.d], accV ++ [v], rest2, ?_, ?_, hck2, er, ?_, ?_, upd_same, hw8, ?_⟩
            · exact (ok9.write hw8).wipe2 hwp
            · exact (st5.trans (st9.mono (Nat.le_succ n))).trans (Step.write (by rw [hw8]; exact not_fixed_tm))
            · rw [List.append_assoc]; exact et
            · rw [List.length_append]; simp; omega
            · exact (fa9.append (.cons fz9 .nil)).step kpw
          · cases e3
    · have e : i = it.items.length := by omega
      subst e
      rw [List.drop_length] at e3
      cases e3
      rw [List.append_nil] at et
      subst et
      refine .inl ⟨stop (Nat.le_refl _), k (.ref D) H2 w2 ?_ (st1.trans st3) (.lst hDa hwD fa)⟩
      refine ⟨by rw [restore_length, ← ok3.len, wipe_length], fun i c h => ?_, ok3.live⟩
      rcases restore_get h with ⟨h1, h2⟩ | ⟨h1, h2⟩
      · obtain ⟨v, ev, q⟩ := ok3.slot i c h2
        exact ⟨v, (wipe_some ev).1, q⟩
      · obtain ⟨v, ev, q⟩ := ok1.slot i c h2
        have hk : c.k = 0 := by
          have := List.all_eq_true.mp hown i h1
          rw [h2] at this
          exact of_decide_eq_true this
        rw [hk] at q ⊢
        refine ⟨v, ev, ?_⟩
        cases q with
        | fz q => exact .fz (st3.fz q)
  · cases hm
theorem sa_lc {elt tg iter : Expr} {ifs : List Expr} {scope : Scope} {own : List (Str × Nat)} {pos : Pos} {mi : MI} {g : MG} {tt : MT} {me : AE} {sl vs : List Nat} (hc : X.calm = true) (hN : X.N.Nodup) (hi : SI X tg iter mi) (ok : BlkOk X.N X.env.scope scope own) (hv : own.map (·.2) = vs)
    (hg : ∀ (s : Shared) (H : Hp) (C : Addr) (cl : List (Str × Addr)) (fp : List Addr), SG (X.blk s H scope (compEnvC scope cl C X.env) fp) tg sl g) (ht : ∀ (s : Shared) (H : Hp) (C : Addr) (cl : List (Str × Addr)) (fp : List Addr), STs (X.blk s H scope (compEnvC scope cl C X.env) fp) ifs tt)
    (he : ∀ (s : Shared) (H : Hp) (C : Addr) (cl : List (Str × Addr)) (fp : List Addr), SA (X.blk s H scope (compEnvC scope cl C X.env) fp) elt me) (hsl : ∀ i ∈ sl, i ∈ vs := by decide) (hs : ∀ x, foldedSetIterable iter X.env x = pure x := by intro _; rfl) :
    SA X (.ListComp elt [⟨tg, iter, ifs, 0⟩] scope pos) (mComp mi g tt me vs) := by
  subst hv
  obtain ⟨wi, p, f⟩ := hi.ex
  exact ⟨_, pe_lc hc hN p ok (fun s H C cl fp => (hg s H C cl fp).rd) (fun s H C cl fp => (ht s H C cl fp).rd) (fun s H C cl fp => (he s H C cl fp).rd) hs, lc_sem (X := X) (tg := tg) hsl f⟩
/-- y = [..] on one line, y a local -/
theorem ss_setLc {i : Nat} {y : Str} {py : Pos} {elt tg iter : Expr} {ifs : List Expr} {scope : Scope} {own : List (Str × Nat)} {pos spos : Pos} {mi : MI} {g : MG} {tt : MT} {me : AE} {sl vs : List Nat} (hc : X.calm = true) (hN : X.N.Nodup) (hi : SI X tg iter mi) (ok : BlkOk X.N X.env.scope scope own) (hv : own.map (·.2) = vs)
    (hg : ∀ (s : Shared) (H : Hp) (C : Addr) (cl : List (Str × Addr)) (fp : List Addr), SG (X.blk s H scope (compEnvC scope cl C X.env) fp) tg sl g) (ht : ∀ (s : Shared) (H : Hp) (C : Addr) (cl : List (Str × Addr)) (fp : List Addr), STs (X.blk s H scope (compEnvC scope cl C X.env) fp) ifs tt)
    (he : ∀ (s : Shared) (H : Hp) (C : Addr) (cl : List (Str × Addr)) (fp : List Addr), SA (X.blk s H scope (compEnvC scope cl C X.env) fp) elt me) (hsl : ∀ i ∈ sl, i ∈ vs := by decide)
    (hy : X.N[i]? = some y := by rfl) (hyl : X.env.scope.names.lookup y = some .local := by rfl) (hsw : swapsWith (.ListComp elt [⟨tg, iter, ifs, 0⟩] scope pos) (some (.Name y py)) spos.line X.env = pure true := by exact sw_true rfl rfl rfl (by decide +kernel)) (hs : ∀ x, foldedSetIterable iter X.env x = pure x := by intro _; rfl) :
    SS X (.Assign [.Name y py] (.ListComp elt [⟨tg, iter, ifs, 0⟩] scope pos) spos) (mSet i (mComp mi g tt me vs)) := by
  subst hv
  obtain ⟨wi, p, f⟩ := hi.ex
  exact ⟨_, ps_setLc hc hN hy hyl hsw p ok (fun s H C cl fp => (hg s H C cl fp).rd) (fun s H C cl fp => (ht s H C cl fp).rd) (fun s H C cl fp => (he s H C cl fp).rd) hs, mSet_core (lc_sem (X := X) (tg := tg) hsl f)⟩
end
end Z

/-! Z: defs that are called while no repr is under way. -/
namespace Z
open PySem PySem.Spec PyProof.Rows L2
structure RoomG (k : Nat) (A : Around) : Prop where
  r : Room k A
  g : A.guards = some []
theorem RoomG.mono {j k : Nat} {A : Around} (h : RoomG k A) (l : j ≤ k) : RoomG j A := ⟨h.r.mono l, h.g⟩
theorem RoomG.deeper {k : Nat} {A : Around} (h : RoomG (k + 1) A) (e : PySem.Env) : RoomG k (A.deeper e) := ⟨h.r.deeper e, h.g⟩
structure FnOkG (P : Program) (W : World) (K : PySem.W.Frag) (mg : Str → Option Value) (base : Heap) (C : CXT) (lv : Nat) (fa : Addr) (fd : FuncData) (pn : List Str) (sp : Sp) : Prop where
  cnt : ∀ xs G Q E, sp xs G Q E → xs.length = pn.length
  go : ∀ (A : Around) (o : List PySem.Env) (t : Shared) (G : Hp) (ar : Args) (us : List Value) (xs : List V) (Q : VK) (E : XK), RoomG lv A → Env0 P W K mg base A o t G → BindsTo t fd ar (pn.zip us) → Vals xs us → sp xs G Q E →
    codeAny (model P W) A (.call (.ref fa) ar) (CR C o P W G t Q E) t
section
variable {P : Program} {W : World} {K : PySem.W.Frag} {mg : Str → Option Value} {base : Heap} {C : CXT} {lv : Nat} {fa : Addr} {fd : FuncData} {N pn : List Str} {sp : Sp} {x qual : Str} {pa : Arguments} {bd : List Stmt} {sc : Scope} {dvs : List V} {kws : List (Str × V)}
/-- a def by its body -/
theorem FunD.okG (F : FunD K x qual pa bd sc dvs kws fa fd) (S : FnScope N pn sc) (cnt : ∀ xs G Q E, sp xs G Q E → xs.length = pn.length)
    (body : ∀ (cv : Value) (A : Around) (o : List PySem.Env) (t : Shared) (G : Hp) (xs : List V) (Q : VK) (E : XK), RoomG lv (A.deeper (envOfC qual sc t.heap.objs.size fa cv)) → sp xs G Q E →
      ∃ rd, PSs (cxOf C P W K mg base N qual sc fa cv A o t G E) bd rd ∧ rd { nx := fun _ G' => Q .non G', rt := Q } (start N xs) G) : FnOkG P W K mg base C (lv + 1) fa fd pn sp := by
  obtain ⟨c0, d0, v1, v2, v3, v4, a0, cv, v5, sl, rfl, at_, code, _⟩ := F.ex
  constructor
  · exact cnt
  intro A o t G ar us xs Q E room en bi va pr
  have ln := cnt _ _ _ _ pr
  have old : ∀ b ob, base.get? b = some ob → t.heap.get? b = some ob := fun b ob z => (en.bs b ob z).1
  have inK : K.In t.heap := en.mod.kin.keeps old
  have noLim : t.heap.NoLimit := en.mod.nolimit.keeps old
  have slots : ∀ y ∈ pn.zip us, sc.names.lookup y.1 = some .local ∨ (sc.names.lookup y.1 = some .cell ∧ ((cellsFrom (t.heap.objs.size + 1) sc.names []).lookup y.1).isSome = true) := by
    rintro ⟨nm, u⟩ hy
    have hp := S.par nm (List.of_mem_zip hy).1
    exact hp.elim .inl fun z => .inr ⟨z, PySem.W.cellsFrom_some _ _ _ (.inl z)⟩
  refine codeAny_call_function room.r.depth (inK _ _ at_) rfl S.co S.gen rfl (PySem.W.codeRec_of inK code) (bi _ _ _ _ (wpAny_newFunctionEnv_cells S.kind slots fun env ee t1 ic => ?_))
  cases ee
  refine ⟨noLim.keeps ic.toInCall.keep, codeAny_func ?_⟩
  obtain ⟨rd, hp, hq⟩ := body cv A o t G xs Q E (room.deeper _) pr
  have out : ∀ {τ : L2.St} {G' : Hp} {v : V} {u : Value} {t2 : Shared}, Inv (cxOf C P W K mg base N qual sc fa cv A o t G E) [] τ G' t2 → RelV v u → Q v G' → CE o P W G t Q u t2 :=
    fun {τ G' v u t2} J rv q => ⟨v, G', J.os, J.bare, J.base, J.hok, rv, q⟩
  have st := inv_start (CX := C) (E := E) S room.r.hd en ln va ic
  refine wpAny_mono (hp.run [] t1 (start N xs) G _ st hq) ?_ fun e t2 z => z
  rintro (_ | _ | _ | u) t2 z
  · obtain ⟨τ, G', J, q⟩ := z
    exact out (v := .non) (u := .none) J rfl q
  · exact (let ⟨_, _, _, z⟩ := z; z : False).elim
  · exact (let ⟨_, _, _, z⟩ := z; z : False).elim
  · obtain ⟨v, τ, G', J, rv, q⟩ := z
    exact out J rv q
end
section
variable {X : Cx} {C : CXT} {lv : Nat} {fa : Addr} {fd : FuncData} {pn ks : List Str} {sp : Sp} {E : XK} {x : Str} {p pos : Pos}
theorem goG {pins : List (Addr × Obj)} {τ : L2.St} {G : Hp} {t : Shared} {Q : VK} {ar : Args} {us : List Value} {xs : List V} (F : FnOkG X.prog X.w X.K X.mg X.base C lv fa fd pn sp) (hr : RoomG lv X.A) (hx : Passes C X E)
    (I : Inv X pins τ G t) (bi : BindsTo t fd ar (pn.zip us)) (va : Vals xs us) (pr : sp xs G Q E) : codeAny (model X.prog X.w) X.A (.call (.ref fa) ar) (fun r t2 => match r with
      | .ok (.ret u) => EP X pins τ Q u t2
      | .ok _ => False
      | .error e => X.xe e t2) t :=
  codeAny_mono (F.go X.A X.stack t G ar us xs Q E hr I.env0 bi va pr) fun r t2 z => by
    match r, z with
    | .error e, z => exact hx pins τ G t e t2 I z
    | .ok (.ret u), z => exact I.after z
    | .ok .next, z => exact z.elim
    | .ok .brk, z => exact z.elim
    | .ok .cont, z => exact z.elim
theorem callG {pins : List (Addr × Obj)} {τ : L2.St} {G : Hp} {t : Shared} {Q : VK} {us : List Value} {xs : List V} (F : FnOkG X.prog X.w X.K X.mg X.base C lv fa fd pn sp) (hr : RoomG lv X.A) (hb : Binds X.K fd pn []) (hx : Passes C X E)
    (I : Inv X pins τ G t) (va : Vals xs us) (pr : sp xs G Q E) : wpAny (model X.prog X.w) X.A (call (.ref fa) us) (EP X pins τ Q) X.xe t := by
  have hl : (us ++ []).length = pn.length := by rw [List.append_nil, ← va.length]; exact F.cnt _ _ _ _ pr
  have bi := hb t us I.kIn hl
  rw [List.append_nil] at bi
  refine wpAny_call (codeAny_mono (goG F hr hx I bi va pr) fun r t2 z => ?_)
  match r, z with
  | .error e, z => exact z
  | .ok (.ret u), z => exact z
theorem pe_callG {e : Expr} {es : List Expr} {ta : TA} (F : FnOkG X.prog X.w X.K X.mg X.base C lv fa fd pn sp) (hr : RoomG lv X.A) (hg : Gl X x) (hm : X.mg x = some (.ref fa)) (hk : PySem.W.keepIn X.K (.ref fa) = true) (hb : Binds X.K fd pn []) (hx : Passes C X E) (ha : PA X (e :: es) ta)
    (hdb : (x == ("__debug__" : Str)) = false) (he : starEach (e :: es) X.env = (false, eval e X.env) :: starEach es X.env) (hpl : (backTo pos (starEach es X.env)).any (·.1) = false) :
    PE X (.Call (.Name x p) (e :: es) [] pos) (fun σ G Q => ta σ G fun vs G1 => sp vs G1 Q E) := by
  constructor
  intro pins t τ G Q I z
  exact wpAny_Call_Name_kw (ld_glob I hg hm (PySem.W.callWith_K (h₀ := X.base) I.ok.mod.kin hk (thn (ha.run pos pins t τ G _ I z) fun us t1 ⟨vs, G1, I1, rv, q⟩ => ⟨I1.kIn, callG F hr hb hx I1 rv q⟩) he hpl) hdb)
end
/-! ### the law is called -/
section
variable {P : Program} {W : World} {K : PySem.W.Frag} {mg mb : Str → Option Value} {C : CXT} {lv : Nat} {fa a : Addr} {fd : FuncData} {x : Str} {sp : Sp} {t : Shared} {us : List Value} {ns : List Int}
def LawEnd (t : Shared) (r : Result) (t2 : Shared) : Prop := r = .ok (.ret (.bool true)) ∧ OldK t.heap t2.heap ∧ t2.os = t.os ∧ AllBare t2.gens
theorem law_from {G : Hp} (KX : K.In t.heap) (hns : t.heap.Ns mainGlobals mg) (hb : t.heap.Ns builtinsNs mb) (hbb : ∀ x : Str, x ≠ "__name__" → mb x = bootBuiltins x) (hlim : t.heap.NoLimit) (hg : t.gens = #[])
    (ha : ∃ v n, t.heap.get? a = some { cls := .type "list", data := .seq v n }) (hr : Room lv callerA)
    (F : ∀ base : Heap, K.In base → base.Ns mainGlobals mg → FnOkG P W K mg base C lv fa fd [x] sp) (bi : ∀ (s : Shared) (u : Value), BindsTo s fd ⟨[u], []⟩ [(x, u)])
    (pr : sp [.ref a] G (fun v _ => v = .bl true) fun _ _ _ => False) (hC : ∀ e t2, C [] G t (fun _ _ _ => False) e t2 → False)
    (only : Only G) (hok : HOk P W G t.heap) (alone : ∀ b, G b ≠ none → b = a) (outK : G a ≠ none → K.lookup a = none) :
    codeAny (model P W) callerA (.call (.ref fa) ⟨[.ref a], []⟩) (LawEnd t) t := by
  obtain ⟨sv, sn, ha⟩ := ha
  have dictFree : ∀ {b : Addr} {ob : Obj} {es : Array DictEntry} {ep : Nat}, t.heap.get? b = some ob → ob.data = .dict es ep → G b = none := fun {b ob es ep} e d => Classical.byContradiction fun q => by
    cases alone b q
    cases ha.symm.trans e
    exact nomatch d
  have nsHid : ∀ {b : Addr} {m : Str → Option Value}, t.heap.Ns b m → (hidT t.heap G).Ns b m := fun {b m} ⟨ob, es, ep, e, d, z⟩ => ⟨ob, es, ep, hidT_get e (dictFree e d), d, z⟩
  have inHid : K.In (hidT t.heap G) := fun b ob e => hidT_get (KX b ob e) (Classical.byContradiction fun q => by
    cases alone b q
    exact nomatch (outK q).symm.trans e)
  have md : Mod K mg (hidT t.heap G) := ⟨inHid, nsHid hns, ⟨mb, nsHid hb, hbb⟩, hlim.elim fun mc z => ⟨mc, nsHid z.1, z.2⟩⟩
  have en : Env0 P W K mg (hidT t.heap G) callerA [] t G := ⟨rfl, md, fun _ _ e => of_hidT e, Nat.le_of_eq (hidT_size _ _), trivial, fun b z => (nomatch (show b ∈ ([] : List Addr) from z)), hok, .of_eq hg⟩
  refine codeAny_mono ((F _ inHid (nsHid hns)).go callerA [] t G _ [.ref a] [.ref a] _ _ ⟨hr, rfl⟩ en (bi t (.ref a)) (.cons rfl .nil) pr) fun r t2 z => ?_
  match r, z with
  | .error e, z => exact (hC e t2 z).elim
  | .ok .next, z => exact z.elim
  | .ok .brk, z => exact z.elim
  | .ok .cont, z => exact z.elim
  | .ok (.ret u), ⟨v, G2, os2, bare2, un, hok2, rv, q⟩ =>
    cases (show v = .bl true from q)
    cases (show u = Value.bool true from rv)
    refine ⟨rfl, OldK.of_keep fun b ob e => ?_, os2, bare2⟩
    cases q : G b with
    | none => exact un.keep b ob e q (fun z => (nomatch (show b ∈ ([] : List Addr) from z))) (fun z => (nomatch z))
    | some u =>
      rcases only b with z | ⟨o2, l2, z⟩
      · exact nomatch q.symm.trans z
      · have f1 := (hok b _ z).1
        have f2 := (hok2 b _ (un.frzs b o2 _ z)).1
        cases e.symm.trans f1
        exact f2
theorem law_callG (KX : K.In t.heap) (hns : t.heap.Ns mainGlobals mg) (hb : t.heap.Ns builtinsNs mb) (hbb : ∀ x : Str, x ≠ "__name__" → mb x = bootBuiltins x) (hlim : t.heap.NoLimit) (hg : t.gens = #[])
    (ha : t.heap.get? a = some { cls := .type "list", data := .seq us.toArray }) (hi : IntsAre us ns) (hl : ns.length ≤ sizeLine) (hr : Room lv callerA)
    (F : ∀ base : Heap, K.In base → base.Ns mainGlobals mg → FnOkG P W K mg base C lv fa fd [x] sp) (bi : ∀ (s : Shared) (u : Value), BindsTo s fd ⟨[u], []⟩ [(x, u)])
    (pr : ∀ G : Hp, Only G → SqL K G a (ns.map V.int) → sp [.ref a] G (fun v _ => v = .bl true) fun _ _ _ => False) (hC : ∀ G e t2, C [] G t (fun _ _ _ => False) e t2 → False) :
    codeAny (model P W) callerA (.call (.ref fa) ⟨[.ref a], []⟩) (LawEnd t) t := by
  have rv := vals_ints hi
  cases hk : K.lookup a with
  | some ob =>
    have e := KX a ob hk
    cases ha.symm.trans e
    have sq : SqL K (fun _ => none) a (ns.map V.int) := .inr ⟨_, us.toArray, _, hk, rfl, rfl, rfl, by rw [List.size_toArray, hi.length]; exact hl, by simpa using rv⟩
    exact law_from KX hns hb hbb hlim hg ⟨_, _, ha⟩ hr F bi (pr _ (fun _ => .inl rfl) sq) (hC _) (fun _ => .inl rfl) (fun _ _ z => (nomatch z)) (fun _ z => (z rfl).elim) fun z => (z rfl).elim
  | none =>
    let G : Hp := fun b => if b = a then some (.frz { cls := .type "list", data := .seq us.toArray } (.lst (ns.map V.int))) else none
    have at_ : G a = some (.frz { cls := .type "list", data := .seq us.toArray } (.lst (ns.map V.int))) := if_pos rfl
    have off : ∀ b, b ≠ a → G b = none := fun b z => if_neg z
    have only : Only G := fun b => if z : b = a then .inr ⟨_, _, if_pos z⟩ else .inl (off b z)
    have hok : HOk P W G t.heap := fun b u z => by
      by_cases q : b = a
      · subst q
        cases at_.symm.trans z
        exact ⟨ha, by rw [List.length_map]; exact hl, us, _, rv, ha⟩
      · exact nomatch (off b q).symm.trans z
    exact law_from KX hns hb hbb hlim hg ⟨_, _, ha⟩ hr F bi (pr G only (.inl (.inr ⟨_, at_⟩))) (hC _) only hok (fun b z => Classical.byContradiction fun q => z (off b q)) fun _ => hk
end
theorem walk_ofG {l : PySem.W.OpenLaw} {n lv : Nat} {q : Program} {loose : List Str} {XP : (Str → Option Value) → Heap → Prop} {YP : World → Heap → Prop} {d : DefRec} {C : CXT} {x : Str}
    (hn : l.most = some n) (hn2 : n ≤ sizeLine) (hdf : d.params.defaults = []) (hr : Room lv callerA)
    (F : ∀ (W : World) (mg : Str → Option Value) (fa : Addr) (h : Heap), YP W h → h.Ns mainGlobals mg → mg d.name = some (.ref fa) →
      ∃ (K : PySem.W.Frag) (fd : FuncData) (sp : Sp), K.In h ∧ (∀ (s : Shared) (u : Value), BindsTo s fd ⟨[u], []⟩ [(x, u)]) ∧
        (∀ (G : Hp) (a : Addr) (ns : List Int), ns.length ≤ n → Only G → SqL K G a (ns.map V.int) → sp [.ref a] G (fun v _ => v = .bl true) fun _ _ _ => False) ∧
        ∀ base : Heap, K.In base → base.Ns mainGlobals mg → FnOkG l.prog W K mg base C lv fa fd [x] sp)
    (hC : ∀ (G : Hp) (s : Shared) (e : Value) (s' : Shared), C [] G s (fun _ _ _ => False) e s' → False) :
    PySem.W.WalkO q loose XP YP l.row.toRowW d [] (fun f vs => PySem.call f vs) :=
  Att.attach_call hn hdf fun W s0 t mg mb fa o pm cd doc a us ns T Y ho hd hcd hmg hobj hints hlen hg => by
    obtain ⟨K, fd, sp, KX, bi, pr, fn⟩ := F W mg fa _ Y T.T.g hmg
    exact law_callG KX T.T.g T.T.b T.T.builtins T.T.nolimit hg hobj hints (Nat.le_trans hlen hn2) hr fn bi (fun G h1 h2 => pr G a ns hlen h1 h2) fun G e t2 => hC G t e t2
end Z

/-! Z: defs and their calls. -/
namespace Z
open PySem PySem.Spec PyProof.Rows L2

/-! ### a def -/
abbrev FD := List Cell → R (Cell × List Cell)
/-- the arguments that may be written: bound for good, looked at behind the call -/
def locks : Nat → List Cell → List Nat
  | _, [] => []
  | j, c :: r => if c.k = 0 then locks (j + 1) r else j :: locks (j + 1) r
def fins (ρ : Env) : Nat → List Cell → R (List Cell)
  | _, [] => .ok []
  | j, c :: r => do
    let fs ← fins ρ (j + 1) r
    if c.k = 0 then R.ok (c :: fs) else match ρ.get j with
      | some c' => R.ok (c' :: fs)
      | none => R.bad
def runDef (size : Nat) (m : MS) : FD := fun args => do
  let (fl, ρ) ← m (locks 0 args) (args.map some ++ List.replicate (size - args.length) none)
  let fs ← fins ρ 0 args
  match fl with
  | .ret c => R.ok (c, fs)
  | .next => R.ok (Cell.fz .non, fs)
  | _ => R.bad
/-- the j-th argument is the slot j's -/
def ArgsAt (K : PySem.W.Frag) (H : Hp) (w : OM) : Nat → List Cell → List V → Prop
  | _, [], [] => True
  | j, c :: cs, v :: vs => Ow K H w (.sl j) c.k c.d v ∧ ArgsAt K H w (j + 1) cs vs
  | _, _, _ => False
def FinAt (K : PySem.W.Frag) (H : Hp) (w : OM) : Nat → List Cell → List Cell → List V → Prop
  | _, [], [], [] => True
  | j, a :: as, c :: cs, v :: vs => (a.k ≠ 0 → Ow K H w (.sl j) c.k c.d v) ∧ FinAt K H w (j + 1) as cs vs
  | _, _, _, _ => False
def spD (K : PySem.W.Frag) (np : Nat) (f : FD) : Sp := fun vs H Q _ => ∃ (w : OM) (args : List Cell) (r : Cell) (fs : List Cell), args.length = np ∧ ArgsAt K H w 0 args vs ∧ (∀ a, w a ≠ .no → H a ≠ none) ∧ f args = .ok (r, fs) ∧
  ∀ v H' w', (∀ a, w' a ≠ .no → H' a ≠ none) → Step 0 H w H' w' → Ow K H' w' (.tm 0) r.k r.d v → FinAt K H' w' 0 args fs vs → Q v H'
section
variable {K : PySem.W.Frag} {H H' : Hp} {w w' : OM}
theorem ArgsAt.length : ∀ {cs : List Cell} {vs : List V} {j : Nat}, ArgsAt K H w j cs vs → cs.length = vs.length
  | [], [], _, _ => rfl
  | [], _ :: _, _, h => h.elim
  | _ :: _, [], _, h => h.elim
  | c :: cs, v :: vs, j, ⟨_, t⟩ => by rw [List.length_cons, List.length_cons, t.length]
theorem ArgsAt.get : ∀ {cs : List Cell} {vs : List V} {j i : Nat} {c : Cell}, ArgsAt K H w j cs vs → cs[i]? = some c → ∃ v, vs[i]? = some v ∧ Ow K H w (.sl (j + i)) c.k c.d v
  | [], [], _, _, _, _, e => by simp at e
  | [], _ :: _, _, _, _, h, _ => h.elim
  | _ :: _, [], _, _, _, h, _ => h.elim
  | c :: cs, v :: vs, j, 0, c', ⟨h, t⟩, e => by simp at e; subst e; exact ⟨v, rfl, h⟩
  | c :: cs, v :: vs, j, i + 1, c', ⟨h, t⟩, e => by
    obtain ⟨u, h1, h2⟩ := t.get (i := i) (c := c') (by simpa using e)
    exact ⟨u, by simpa using h1, by rw [show j + (i + 1) = j + 1 + i by omega]; exact h2⟩
theorem env_get_map : ∀ {cs : List Cell} {m i : Nat} {c : Cell}, Env.get (cs.map some ++ List.replicate m none) i = some c → cs[i]? = some c
  | [], 0, i, c, h => by cases i <;> cases h
  | [], m + 1, 0, c, h => by cases h
  | [], m + 1, i + 1, c, h => by
    have := env_get_map (cs := []) (m := m) (i := i) (c := c) h
    simp at this
  | a :: cs, m, 0, c, h => by cases h; rfl
  | a :: cs, m, i + 1, c, h => by simpa using env_get_map (cs := cs) (m := m) (i := i) (c := c) h
theorem locks_mem : ∀ {cs : List Cell} {j i : Nat} {c : Cell}, cs[i]? = some c → c.k ≠ 0 → j + i ∈ locks j cs
  | [], _, _, _, e, _ => by simp at e
  | a :: cs, j, 0, c, e, h => by
    simp at e; subst e
    unfold locks
    rw [if_neg h]
    exact List.mem_cons_self ..
  | a :: cs, j, i + 1, c, e, h => by
    have := locks_mem (j := j + 1) (i := i) (c := c) (by simpa using e) h
    rw [show j + (i + 1) = j + 1 + i by omega]
    unfold locks
    split
    · exact this
    · exact List.mem_cons_of_mem _ this
theorem fins_ok {σ σ' : L2.St} {ρ : Env} (ok : Ok K H w σ' ρ) : ∀ {args : List Cell} {vs : List V} {fs : List Cell} {j : Nat}, args.length = vs.length → fins ρ j args = .ok fs → (∀ i v, vs[i]? = some v → σ[j + i]? = some (some v)) →
    (∀ i c, args[i]? = some c → c.k ≠ 0 → σ'[j + i]? = σ[j + i]?) → FinAt K H w j args fs vs
  | [], [], fs, j, _, e, _, _ => by cases e; trivial
  | [], _ :: _, _, _, h, _, _, _ => by simp at h
  | _ :: _, [], _, _, h, _, _, _ => by simp at h
  | a :: as, v :: vs, fs, j, hl, e, hv, hs => by
    obtain ⟨fs', e1, e⟩ := R.of_bind e
    have ih := fins_ok (σ := σ) ok (by simpa using hl) e1 (fun i u hu => by rw [show j + 1 + i = j + (i + 1) by omega]; exact hv (i + 1) u (by simpa using hu)) (fun i c hc hk => by rw [show j + 1 + i = j + (i + 1) by omega]; exact hs (i + 1) c (by simpa using hc) hk)
    split at e
    · cases e
      exact ⟨fun z => absurd (by assumption) z, ih⟩
    · rename_i hk
      split at e
      · rename_i c' hc'
        cases e
        refine ⟨fun _ => ?_, ih⟩
        obtain ⟨u, hu, ow⟩ := ok.slot j c' hc'
        have h0 := hs 0 a rfl hk
        have h1 := hv 0 v rfl
        rw [Nat.add_zero] at h0 h1
        rw [h0, h1] at hu
        cases hu
        exact ow
      · cases e
end
/-! ### a call -/
/-- the arguments as a callee takes them; the slots that it may write, once each -/
def args (ρ : Env) : List Src → R (List Cell)
  | [] => .ok []
  | s :: ss => do
    let cs ← args ρ ss
    match s.cell ρ with
    | some c => R.ok (c :: cs)
    | none => R.bad
def ioSlots (ρ : Env) : List Src → List Nat
  | [] => []
  | .s i :: ss => match ρ.get i with
    | some ⟨_, 0⟩ => ioSlots ρ ss
    | _ => i :: ioSlots ρ ss
  | .v _ :: ss => ioSlots ρ ss
def back (ρ0 : Env) : List Src → List Cell → Env → Env
  | .s i :: ss, c :: cs, ρ => match ρ0.get i with
    | some ⟨_, 0⟩ => back ρ0 ss cs ρ
    | _ => back ρ0 ss cs (ρ.set i (some c))
  | .v _ :: ss, _ :: cs, ρ => back ρ0 ss cs ρ
  | _, _, ρ => ρ
def dupF : List Nat → Bool
  | [] => true
  | i :: r => !r.contains i && dupF r
def mCall (f : FD) (ms : List AE) : AE := fun ρ => do
  let (ss, ρ1) ← evs ms ρ
  let cs ← args ρ1 ss
  if dupF (ioSlots ρ1 ss) then do
    let (r, fs) ← f cs
    R.ok (.v r, back ρ1 ss fs ρ1)
  else R.bad
/-- one label for another -/
theorem Fz.map {K : PySem.W.Frag} {H : Hp} {w w' : OM} {d : D} {v : V} (h : Fz K H w d v) (h0 : ∀ a, w a = .no → w' a = .no) : Fz K H w' d v :=
  h.step (o := .no) fun a x e z => ⟨e, by rcases z with z | z <;> rw [z, h0 a z]⟩
theorem FzL.map {K : PySem.W.Frag} {H : Hp} {w w' : OM} {ds : List D} {vs : List V} (h : FzL K H w ds vs) (h0 : ∀ a, w a = .no → w' a = .no) : FzL K H w' ds vs :=
  h.step (o := .no) fun a x e z => ⟨e, by rcases z with z | z <;> rw [z, h0 a z]⟩
theorem Ow1L.map {K : PySem.W.Frag} {H : Hp} {w w' : OM} {o o' : Own} (h0 : ∀ a, w a = .no → w' a = .no) (h1 : ∀ a, w a = o → w' a = o') : ∀ {ds : List D} {vs : List V}, Ow1L K H w o ds vs → Ow1L K H w' o' ds vs
  | _, _, .nil => .nil
  | _, _, .cons h n t r => .cons h (h1 _ n) (t.map h0) (Ow1L.map h0 h1 r)
theorem Ow.map {K : PySem.W.Frag} {H : Hp} {w w' : OM} {o o' : Own} {k : Nat} {d : D} {v : V} (h : Ow K H w o k d v) (h0 : ∀ a, w a = .no → w' a = .no) (h1 : ∀ a, w a = o → w' a = o') : Ow K H w' o' k d v := by
  cases h with
  | fz h => exact .fz (h.map h0)
  | lst h n t => exact .lst h (h1 _ n) (t.map h0)
  | dct h n e t => exact .dct h (h1 _ n) e (t.map h0)
  | dcu h n x e q r t => exact .dcu h (h1 _ n) x e (q.map h0) r (t.map h0)
  | lst2 h n t nd => exact .lst2 h (h1 _ n) (t.map h0 h1) nd
/-- the caller's labels as the callee has them -/
def lab (ρ : Env) : Nat → Nat → List Src → Own → Own
  | _, _, [], o => if o = .no then .no else .out
  | n, j, .v _ :: ss, o => if o = .tm n then .sl j else lab ρ (n + 1) (j + 1) ss o
  | n, j, .s i :: ss, o => match ρ.get i with
    | some ⟨_, 0⟩ => lab ρ (n + 1) (j + 1) ss o
    | _ => if o = .sl i then .sl j else lab ρ (n + 1) (j + 1) ss o
/-- .. and back -/
def unl (ρ : Env) (n : Nat) : Nat → List Src → Own → Own
  | _, [], o => if o = .tm 0 then .tm n else .no
  | j, .v _ :: ss, o => unl ρ n (j + 1) ss o
  | j, .s i :: ss, o => match ρ.get i with
    | some ⟨_, 0⟩ => unl ρ n (j + 1) ss o
    | _ => if o = .sl j then .sl i else unl ρ n (j + 1) ss o
theorem lab_no {ρ : Env} : ∀ {ss : List Src} {n j : Nat}, lab ρ n j ss .no = .no
  | [], _, _ => rfl
  | .v _ :: ss, n, j => by unfold lab; rw [if_neg (by intro z; cases z)]; exact lab_no
  | .s i :: ss, n, j => by
    unfold lab
    split
    · exact lab_no
    · rw [if_neg (by intro z; cases z)]; exact lab_no
theorem lab_out {ρ : Env} {o : Own} : ∀ {ss : List Src} {n j : Nat}, o ≠ .no → (∀ m, n ≤ m → o ≠ .tm m) → (∀ i, i ∈ ioSlots ρ ss → o ≠ .sl i) → lab ρ n j ss o = .out
  | [], _, _, h, _, _ => by unfold lab; rw [if_neg h]
  | .v _ :: ss, n, j, h, ht, hs => by
    unfold lab
    rw [if_neg (ht n (Nat.le_refl n))]
    exact lab_out h (fun m hm => ht m (by omega)) hs
  | .s i :: ss, n, j, h, ht, hs => by
    unfold lab
    split
    · rename_i hc
      refine lab_out h (fun m hm => ht m (by omega)) fun i' hi' => hs i' ?_
      unfold ioSlots
      rw [hc]; exact hi'
    · rename_i hc
      have e : ioSlots ρ (.s i :: ss) = i :: ioSlots ρ ss := by
        rw [ioSlots]
        split
        · rename_i q; exact absurd q (hc _)
        · rfl
      rw [e] at hs
      rw [if_neg (hs i (List.mem_cons_self ..))]
      exact lab_out h (fun m hm => ht m (by omega)) fun i' hi' => hs i' (List.mem_cons_of_mem _ hi')
theorem unl_no {ρ : Env} {n : Nat} : ∀ {ss : List Src} {j : Nat}, unl ρ n j ss .no = .no
  | [], _ => by unfold unl; rw [if_neg (by intro z; cases z)]
  | .v _ :: ss, j => by unfold unl; exact unl_no
  | .s i :: ss, j => by
    unfold unl
    split
    · exact unl_no
    · rw [if_neg (by intro z; cases z)]; exact unl_no
theorem unl_tm {ρ : Env} {n : Nat} : ∀ {ss : List Src} {j : Nat}, unl ρ n j ss (.tm 0) = .tm n
  | [], _ => by unfold unl; rw [if_pos rfl]
  | .v _ :: ss, j => by unfold unl; exact unl_tm
  | .s i :: ss, j => by
    unfold unl
    split
    · exact unl_tm
    · rw [if_neg (by intro z; cases z)]; exact unl_tm
/-- the arguments are the callee's -/
theorem args_at {K : PySem.W.Frag} {H : Hp} {w wc : OM} {σ : L2.St} {ρ : Env} (ok : Ok K H w σ ρ) (h0 : ∀ a, w a = .no → wc a = .no) : ∀ {ss : List Src} {vs : List V} {cs : List Cell} {n j : Nat}, SrcsAt K H w σ n ss vs → args ρ ss = .ok cs → dupF (ioSlots ρ ss) = true →
    (∀ a, (∀ m, n ≤ m → w a = .tm m → wc a = lab ρ n j ss (w a)) ∧ (∀ i, i ∈ ioSlots ρ ss → w a = .sl i → wc a = lab ρ n j ss (w a))) → ArgsAt K H wc j cs vs
  | [], [], cs, n, j, _, e, _, _ => by cases e; trivial
  | [], _ :: _, _, _, _, h, _, _, _ => h.elim
  | _ :: _, [], _, _, _, h, _, _, _ => h.elim
  | s :: ss, v :: vs, cs, n, j, ⟨h, t⟩, e, du, hl => by
    obtain ⟨cs', e1, e⟩ := R.of_bind e
    split at e
    · rename_i c hc
      cases e
      cases s with
      | v c' =>
        cases (show some c' = some c from hc)
        have du' : dupF (ioSlots ρ ss) = true := du
        refine ⟨?_, args_at ok h0 t e1 du' fun a => ⟨fun m hm ha => ?_, fun i hi ha => ?_⟩⟩
        · have h : Ow K H w (.tm n) c.k c.d v := h
          refine h.map h0 fun a ha => ?_
          rw [(hl a).1 n (Nat.le_refl n) ha, ha, lab, if_pos rfl]
        · rw [(hl a).1 m (by omega) ha, ha, lab, if_neg (by intro z; cases z; omega)]
        · rw [(hl a).2 i hi ha, ha, lab, if_neg (by intro z; cases z)]
      | s i =>
        have hc : ρ.get i = some c := hc
        have h : σ[i]? = some (some v) := h
        obtain ⟨u, hu, ow⟩ := ok.slot i c hc
        rw [h] at hu
        cases hu
        by_cases hk : c.k = 0
        · have eio : ioSlots ρ (.s i :: ss) = ioSlots ρ ss := by
            obtain ⟨d, k⟩ := c
            cases hk
            simp only [ioSlots, hc]
          have ela : ∀ o, lab ρ n j (.s i :: ss) o = lab ρ (n + 1) (j + 1) ss o := fun o => by
            obtain ⟨d, k⟩ := c
            cases hk
            simp only [lab, hc]
          rw [eio] at du
          refine ⟨?_, args_at ok h0 t e1 du fun a => ⟨fun m hm ha => ?_, fun i' hi ha => ?_⟩⟩
          · rw [hk] at ow ⊢
            cases ow with
            | fz ow => exact .fz (ow.map h0)
          · rw [(hl a).1 m (by omega) ha, ha, ela]
          · rw [(hl a).2 i' (by rw [eio]; exact hi) ha, ha, ela]
        · have nk : ∀ d, ρ.get i ≠ some ⟨d, 0⟩ := fun d z => by rw [hc] at z; cases z; exact hk rfl
          have eio : ioSlots ρ (.s i :: ss) = i :: ioSlots ρ ss := by
            rw [ioSlots]
            split
            · rename_i q; exact absurd q (nk _)
            · rfl
          have ela : ∀ o, lab ρ n j (.s i :: ss) o = if o = .sl i then .sl j else lab ρ (n + 1) (j + 1) ss o := fun o => by
            rw [lab]
            split
            · rename_i q; exact absurd q (nk _)
            · rfl
          rw [eio] at du hl
          unfold dupF at du
          rw [Bool.and_eq_true] at du
          refine ⟨?_, args_at ok h0 t e1 du.2 fun a => ⟨fun m hm ha => ?_, fun i' hi ha => ?_⟩⟩
          · refine ow.map h0 fun a ha => ?_
            rw [(hl a).2 i (List.mem_cons_self ..) ha, ha, ela, if_pos rfl]
          · rw [(hl a).1 m (by omega) ha, ha, ela, if_neg (by intro z; cases z)]
          · rw [(hl a).2 i' (List.mem_cons_of_mem _ hi) ha, ha, ela, if_neg]
            intro z
            have z : i' = i := by injection z
            subst z
            have : (ioSlots ρ ss).contains i' = true := by simpa using hi
            rw [this] at du
            exact absurd du.1 (by decide)
    · cases e
/-- behind the call: each slot as it was, or what the callee left -/
theorem back_get {K : PySem.W.Frag} {H H2 : Hp} {w wc' : OM} {σ : L2.St} {ρ0 : Env} : ∀ {ss : List Src} {vs : List V} {cs fs : List Cell} {n j : Nat} {ρ : Env} {i : Nat} {c : Cell}, SrcsAt K H w σ n ss vs → args ρ0 ss = .ok cs → FinAt K H2 wc' j cs fs vs →
    (back ρ0 ss fs ρ).get i = some c → (i ∉ ioSlots ρ0 ss ∧ ρ.get i = some c) ∨ ∃ j' v, σ[i]? = some (some v) ∧ Ow K H2 wc' (.sl j') c.k c.d v ∧ unl ρ0 n j ss (.sl j') = .sl i ∧ j ≤ j'
  | [], [], cs, fs, n, j, ρ, i, c, _, e, hf, hb => by
    cases e
    cases fs with
    | nil => exact .inl ⟨by simp [ioSlots], hb⟩
    | cons _ _ => exact hf.elim
  | [], _ :: _, _, _, _, _, _, _, _, h, _, _, _ => h.elim
  | _ :: _, [], _, _, _, _, _, _, _, h, _, _, _ => h.elim
  | s :: ss, v :: vs, cs, fs, n, j, ρ, i, c, ⟨h, t⟩, e, hf, hb => by
    obtain ⟨cs', e1, e⟩ := R.of_bind e
    split at e
    · rename_i c0 hc0
      cases e
      cases fs with
      | nil => exact hf.elim
      | cons f fs =>
        obtain ⟨hf1, hf2⟩ := hf
        cases s with
        | v c' =>
          rcases back_get t e1 hf2 hb with z | ⟨j', u, a1, a2, a3, a4⟩
          · exact .inl z
          · refine .inr ⟨j', u, a1, a2, ?_, by omega⟩
            have : unl ρ0 (n + 1) (j + 1) ss (.sl j') = .sl i := a3
            have gen : ∀ (ss : List Src) (n m j : Nat) (k i : Nat), unl ρ0 n j ss (.sl k) = .sl i → unl ρ0 m j ss (.sl k) = .sl i := by
              intro ss
              induction ss with
              | nil => intro n m j k i z; unfold unl at z; rw [if_neg (by intro z; cases z)] at z; cases z
              | cons s ss ih =>
                intro n m j k i z
                cases s with
                | v _ => exact ih n m (j + 1) k i z
                | s i2 =>
                  unfold unl at z ⊢
                  split
                  · rename_i hq
                    rw [hq] at z
                    exact ih n m (j + 1) k i z
                  · rename_i hq
                    split at z
                    · rename_i q; exact absurd q (hq _)
                    · split at z
                      · rename_i q; rw [if_pos q]; exact z
                      · rename_i q; rw [if_neg q]; exact ih n m (j + 1) k i z
            exact gen ss (n + 1) n (j + 1) j' i a3
        | s i0 =>
          have gen : ∀ (ss : List Src) (n m j : Nat) (k i : Nat), unl ρ0 n j ss (.sl k) = .sl i → unl ρ0 m j ss (.sl k) = .sl i := by
            intro ss
            induction ss with
            | nil => intro n m j k i z; unfold unl at z; rw [if_neg (by intro z; cases z)] at z; cases z
            | cons s ss ih =>
              intro n m j k i z
              cases s with
              | v _ => exact ih n m (j + 1) k i z
              | s i2 =>
                unfold unl at z ⊢
                split
                · rename_i hq
                  rw [hq] at z
                  exact ih n m (j + 1) k i z
                · rename_i hq
                  split at z
                  · rename_i q; exact absurd q (hq _)
                  · split at z
                    · rename_i q; rw [if_pos q]; exact z
                    · rename_i q; rw [if_neg q]; exact ih n m (j + 1) k i z
          have hc0 : ρ0.get i0 = some c0 := hc0
          by_cases hk : c0.k = 0
          · have eio : ioSlots ρ0 (.s i0 :: ss) = ioSlots ρ0 ss := by
              obtain ⟨d, k⟩ := c0
              cases hk
              simp only [ioSlots, hc0]
            have eb : back ρ0 (.s i0 :: ss) (f :: fs) ρ = back ρ0 ss fs ρ := by
              obtain ⟨d, k⟩ := c0
              cases hk
              simp only [back, hc0]
            have eu : ∀ o, unl ρ0 n j (.s i0 :: ss) o = unl ρ0 n (j + 1) ss o := fun o => by
              obtain ⟨d, k⟩ := c0
              cases hk
              simp only [unl, hc0]
            rw [eb] at hb
            rw [eio]
            rcases back_get t e1 hf2 hb with z | ⟨j', u, a1, a2, a3, a4⟩
            · exact .inl z
            · exact .inr ⟨j', u, a1, a2, by rw [eu]; exact gen ss _ _ _ _ _ a3, by omega⟩
          · have nk : ∀ d, ρ0.get i0 ≠ some ⟨d, 0⟩ := fun d z => by rw [hc0] at z; cases z; exact hk rfl
            have eio : ioSlots ρ0 (.s i0 :: ss) = i0 :: ioSlots ρ0 ss := by
              rw [ioSlots]
              split
              · rename_i q; exact absurd q (nk _)
              · rfl
            have eb : back ρ0 (.s i0 :: ss) (f :: fs) ρ = back ρ0 ss fs (ρ.set i0 (some f)) := by
              rw [back]
              split
              · rename_i q; exact absurd q (nk _)
              · rfl
            have eu : ∀ o, unl ρ0 n j (.s i0 :: ss) o = if o = .sl j then .sl i0 else unl ρ0 n (j + 1) ss o := fun o => by
              rw [unl]
              split
              · rename_i q; exact absurd q (nk _)
              · rfl
            rw [eb] at hb
            rw [eio]
            rcases back_get t e1 hf2 hb with ⟨z1, z2⟩ | ⟨j', u, a1, a2, a3, a4⟩
            · rcases Env.get_set z2 with ⟨e3, e4⟩ | ⟨e3, e4⟩
              · subst e3
                cases e4
                exact .inr ⟨j, v, h, hf1 hk, by rw [eu, if_pos rfl], Nat.le_refl j⟩
              · exact .inl ⟨by simp [e3, z1], e4⟩
            · exact .inr ⟨j', u, a1, a2, by rw [eu, if_neg (by intro z; cases z; omega)]; exact gen ss _ _ _ _ _ a3, by omega⟩
    · cases e
theorem back_length {ρ0 : Env} : ∀ {ss : List Src} {fs : List Cell} {ρ : Env}, (back ρ0 ss fs ρ).length = ρ.length
  | [], _, _ => rfl
  | .v _ :: ss, [], _ => rfl
  | .s _ :: ss, [], _ => rfl
  | .v _ :: ss, _ :: fs, ρ => by rw [back]; exact back_length
  | .s i :: ss, c :: fs, ρ => by
    rw [back]
    split
    · exact back_length
    · rw [back_length, Env.length_set]
theorem mCall_ok {f : FD} {ms : List AE} {ρ ρ' : Env} {s : Src} (h : mCall f ms ρ = .ok (s, ρ')) : ∃ ss ρ1 cs r fs, evs ms ρ = .ok (ss, ρ1) ∧ args ρ1 ss = .ok cs ∧ dupF (ioSlots ρ1 ss) = true ∧ f cs = .ok (r, fs) ∧ s = .v r ∧ ρ' = back ρ1 ss fs ρ1 := by
  obtain ⟨⟨ss, ρ1⟩, e1, h⟩ := R.of_bind h
  obtain ⟨cs, e2, h⟩ := R.of_bind h
  dsimp only at h e2
  split at h
  · obtain ⟨⟨r, fs⟩, e3, h⟩ := R.of_bind h
    cases h
    exact ⟨ss, ρ1, cs, r, fs, e1, e2, by assumption, e3, rfl, rfl⟩
  · cases h
theorem args_length {ρ : Env} : ∀ {ss : List Src} {cs : List Cell}, args ρ ss = .ok cs → cs.length = ss.length
  | [], _, e => by cases e; rfl
  | s :: ss, cs, e => by
    obtain ⟨cs', e1, e⟩ := R.of_bind e
    split at e
    · cases e; rw [List.length_cons, List.length_cons, args_length e1]
    · cases e
/-- the callee's promise serves the caller -/
theorem call_sem {K : PySem.W.Frag} {n np : Nat} {H : Hp} {w : OM} {σ : L2.St} {ρ : Env} {ss : List Src} {vs : List V} {cs : List Cell} {f : FD} {r : Cell} {fs : List Cell} {Q : VK} {E : XK} (ok : Ok K H w σ ρ) (sa : SrcsAt K H w σ n ss vs) (ha : args ρ ss = .ok cs) (hd : dupF (ioSlots ρ ss) = true) (hf : f cs = .ok (r, fs)) (hnp : ss.length = np)
    (k : ∀ v H' w', Ok K H' w' σ (back ρ ss fs ρ) → Step n H w H' w' → Ow K H' w' (.tm n) r.k r.d v → Q v H') : spD K np f vs H Q E := by
  refine ⟨fun a => lab ρ n 0 ss (w a), cs, r, fs, by rw [args_length ha]; exact hnp, ?_, fun a h => ok.live a fun z => h (by show lab ρ n 0 ss (w a) = _; rw [z]; exact lab_no), hf, fun v H' wc' live' st ow fin => ?_⟩
  · exact args_at ok (fun a z => by show lab ρ n 0 ss (w a) = _; rw [z]; exact lab_no) sa ha hd fun a => ⟨fun _ _ _ => rfl, fun _ _ _ => rfl⟩
  · have wd : ∀ a, wc' a ≠ .out → (if wc' a = .out then w a else unl ρ n 0 ss (wc' a)) = unl ρ n 0 ss (wc' a) := fun a h => if_neg h
    have keep : ∀ a x, H a = some x → lab ρ n 0 ss (w a) = .out → H' a = some x ∧ (if wc' a = .out then w a else unl ρ n 0 ss (wc' a)) = w a := fun a x e h => by
      obtain ⟨h1, h2⟩ := st a x e (by show Fixed 0 (lab ρ n 0 ss (w a)); rw [h]; exact .inr (.inl rfl))
      exact ⟨h1, if_pos (h2.trans h)⟩
    have keepNo : ∀ a x, H a = some x → w a = .no → H' a = some x ∧ (if wc' a = .out then w a else unl ρ n 0 ss (wc' a)) = w a := fun a x e h => by
      have hl : lab ρ n 0 ss (w a) = .no := by rw [h]; exact lab_no
      obtain ⟨h1, h2⟩ := st a x e (by show Fixed 0 (lab ρ n 0 ss (w a)); rw [hl]; exact .inl rfl)
      have h3 : wc' a = .no := h2.trans hl
      exact ⟨h1, by rw [h3, if_neg (by intro z; cases z), unl_no, h]⟩
    have stn : Step n H w H' (fun a => if wc' a = .out then w a else unl ρ n 0 ss (wc' a)) := fun a x e f => by
      rcases f with f | f | ⟨j, hj, f⟩
      · exact keepNo a x e f
      · exact keep a x e (by rw [f]; exact lab_out (by intro z; cases z) (fun m _ z => by cases z) fun i _ z => by cases z)
      · exact keep a x e (by rw [f]; exact lab_out (by intro z; cases z) (fun m hm z => by cases z; omega) fun i _ z => by cases z)
    refine k v H' _ ⟨by rw [back_length]; exact ok.len, fun i c hc => ?_, fun a h => live' a fun z => h ?_⟩ stn ?_
    · rcases back_get sa ha fin hc with ⟨z1, z2⟩ | ⟨j', u, a1, a2, a3, _⟩
      · obtain ⟨u, hu, ow⟩ := ok.slot i c z2
        refine ⟨u, hu, ow.step fun a x e z => ?_⟩
        rcases z with z | z
        · exact keepNo a x e z
        · exact keep a x e (by rw [z]; exact lab_out (by intro z; cases z) (fun m _ z => by cases z) fun i' hi' z => by cases z; exact z1 hi')
      · refine ⟨u, a1, a2.map (fun a z => ?_) fun a z => ?_⟩
        · show (if wc' a = .out then w a else unl ρ n 0 ss (wc' a)) = _
          rw [z, if_neg (by intro z; cases z), unl_no]
        · show (if wc' a = .out then w a else unl ρ n 0 ss (wc' a)) = _
          rw [z, if_neg (by intro z; cases z), a3]
    · show (if wc' a = .out then w a else unl ρ n 0 ss (wc' a)) = _
      rw [z, if_neg (by intro z; cases z), unl_no]
    · refine ow.map (fun a z => ?_) fun a z => ?_
      · show (if wc' a = .out then w a else unl ρ n 0 ss (wc' a)) = _
        rw [z, if_neg (by intro z; cases z), unl_no]
      · show (if wc' a = .out then w a else unl ρ n 0 ss (wc' a)) = _
        rw [z, if_neg (by intro z; cases z), unl_tm]
section
variable {X : Cx}
/-- f(e, ..) -/
theorem sa_call {x : Str} {p pos : Pos} {e : Expr} {es : List Expr} {ms : List AE} {f : FD} {fa : Addr} {fd : FuncData} {ps : List Str} {k np : Nat} (F : FnOkG X.prog X.w X.K X.mg X.base CX0 k fa fd ps (spD X.K np f)) (hr : RoomG k X.A) (hm : X.mg x = some (.ref fa)) (hk : PySem.W.keepIn X.K (.ref fa) = true) (hb : Binds X.K fd ps [])
    (ha : SAs X (e :: es) ms) (hl : ms.length = np := by rfl) (hg : Gl X x := by rfl) (hdb : (x == ("__debug__" : Str)) = false := by decide) (he : starEach (e :: es) X.env = (false, eval e X.env) :: starEach es X.env := by rfl) (hpl : (backTo pos (starEach es X.env)).any (·.1) = false := by rfl) :
    SA X (.Call (.Name x p) (e :: es) [] pos) (mCall f ms) := by
  obtain ⟨t, q, g⟩ := ha.ex
  refine ⟨_, pe_callG F hr hg hm hk hb pass0 q hdb he hpl, fun n σ H w ρ s ρ' Q ok hm k => ?_⟩
  obtain ⟨ss, ρ1, cs, r, fs, e1, e2, e3, e4, rfl, rfl⟩ := mCall_ok hm
  refine g n σ H w ρ ss ρ1 _ ok e1 fun vs H1 w1 ok1 st1 sa => ?_
  exact call_sem ok1 sa e2 e3 e4 (by rw [evs_length e1]; exact hl) fun v H' w' ok' st' ow => k v H' w' ok' (st1.trans st') ow
end
end Z

/-! ZA: stores, methods. -/
namespace Z
open PySem PySem.Spec PyProof.Rows L2

section
variable {K : PySem.W.Frag} {H : Hp} {w : OM} {σ : L2.St} {ρ : Env}
/-- the list at slot i is changed -/
theorem Ok.putLst {i : Nat} {a : Addr} {l l' : List D} {vs' : List V} (ok : Ok K H w σ ρ) (hi : ρ.get i = some ⟨.lst l, 1⟩) (hs : σ[i]? = some (some (.ref a))) (hw : w a = .sl i) (f : FzL K H w l' vs') :
    Ok K (upd H a (.lst vs')) w σ (ρ.set i (some ⟨.lst l', 1⟩)) := by
  have h0 : w a ≠ .no := by rw [hw]; intro z; cases z
  refine ⟨by rw [Env.length_set]; exact ok.len, fun j x q => ?_, fun b h => ?_⟩
  · rcases Env.get_set q with ⟨ej, z⟩ | ⟨hj, z⟩
    · subst ej
      cases z
      exact ⟨_, hs, .lst upd_same hw (f.step (Kp.write (o1 := .no) h0 h0))⟩
    · obtain ⟨u, e1, q⟩ := ok.slot j x z
      exact ⟨u, e1, q.step (Kp.write h0 (by rw [hw]; intro z; cases z; exact hj rfl))⟩
  · by_cases z : b = a
    · subst z; rw [upd_same]; exact fun q => nomatch q
    · rw [upd_ne z]; exact ok.live b h
theorem Ok.slotLst {i : Nat} {l : List D} (ok : Ok K H w σ ρ) (hi : ρ.get i = some ⟨.lst l, 1⟩) : ∃ a vs, σ[i]? = some (some (.ref a)) ∧ H a = some (.lst vs) ∧ w a = .sl i ∧ FzL K H w l vs := by
  obtain ⟨v, e, ow⟩ := ok.slot i _ hi
  cases ow with
  | lst h n t => exact ⟨_, _, e, h, n, t⟩
end
section
variable {X : Cx} {pos : Pos}
/-! ### x[i] = v, a list or a dict -/
def setD (l : List D) (i : Int) (d : D) : Option (List D) := (ixN l.length i).map fun j => l.set j d
/-- may the key be put into the dict -/
def putOk (q : D) (ks : List D) : Bool := ((q.sk && ks.all D.sk) || (q.tk && ks.all D.tk)) && decide (ks.length < 16777216)
def mSetIx (i : Nat) (mi mv : AE) : MS := fun _ ρ => do
  let (sv, ρ1) ← mv ρ
  let (c, ρ2) ← esc sv ρ1
  match ρ2.get i with
  | some _ => do
    let (si, ρ3) ← mi ρ2
    match si.cell ρ3, ρ3.get i with
    | some ⟨.int k, _⟩, some ⟨.lst l, 1⟩ => match setD l k c.d with
      | some l' => R.ok (.next, ρ3.set i (some ⟨.lst l', 1⟩))
      | none => R.bad
    | some kc, some ⟨.dct ks ds, 1⟩ => if putOk kc.d ks then R.ok (.next, ρ3.set i (some ⟨.dct (dPutK ks kc.d) (dPutV ks ds kc.d c.d), 1⟩)) else R.bad
    | _, _ => R.bad
  | none => R.bad
theorem setD_ok {K : PySem.W.Frag} {H : Hp} {w : OM} {l l' : List D} {vs : List V} {k : Int} {d : D} {v : V} (e : setD l k d = some l') (f : FzL K H w l vs) (fd : Fz K H w d v) : ∃ j, ixN vs.length k = some j ∧ FzL K H w l' (vs.set j v) := by
  unfold setD at e
  rw [f.length] at e
  cases q : ixN vs.length k with
  | none => rw [q] at e; cases e
  | some j =>
    rw [q] at e
    cases e
    exact ⟨j, rfl, f.set fd j⟩
def rSetU (X : Cx) : TSet := fun o i v H Q => ∃ a b xs k, o = .ref a ∧ i = .ref b ∧ UAt0 X H a xs ∧ Mut (H a) ∧ k.tk = true ∧ NkV X H k (.ref b) ∧ xs.length < sizeLine ∧ ∀ r ob, RelV v r → ExD ob a (uPut xs k b r) → Q (upd H a (.ext fun h => h.get? a = some ob))
theorem set_u (hu : X.A.units + 65 < cLine) : PSet X (rSetU X) := by
  intro pins s σ H o i v ov iv u Q I ro ri rv h
  obtain ⟨a, b, xs, k, rfl, rfl, g, mu, hk, kv, hl, q⟩ := h
  cases (show ov = Value.ref a from ro)
  cases (show iv = Value.ref b from ri)
  exact u_setItem hu I mu g hk kv hl fun s' ob x I' => ⟨_, I', q u ob rv x⟩
def rSetK : TSet := fun o i v H Q => ∃ a H', o = .ref a ∧ DPut H a i v H' ∧ Q H'
theorem set_k (hu : X.A.units + 1 < cLine) : PSet X rSetK := by
  intro pins s σ H o i v ov iv u Q I ro ri rv h
  obtain ⟨a, H', eo, g, q⟩ := h
  subst eo
  cases (show ov = Value.ref a from ro)
  exact d_setItem hu I g ri rv fun s' I' => ⟨H', I', q⟩
def rSetA (X : Cx) : TSet := fun o i v H Q => rSetL o i v H Q ∨ rSetK o i v H Q ∨ rSetU X o i v H Q
theorem set_a (hu : X.A.units + 65 < cLine) : PSet X (rSetA X) := by
  intro pins s σ H o i v ov iv u Q I ro ri rv h
  rcases h with h | h | h
  · exact set_list pins s σ H o i v ov iv u Q I ro ri rv h
  · exact set_k (by omega) pins s σ H o i v ov iv u Q I ro ri rv h
  · exact set_u hu pins s σ H o i v ov iv u Q I ro ri rv h
/-- the thing at slot i is changed -/
theorem Ok.putAny {K : PySem.W.Frag} {H : Hp} {w : OM} {σ : L2.St} {ρ : Env} {i : Nat} {a : Addr} {ho : HO} {d : D} (ok : Ok K H w σ ρ) (hi : σ[i]? = some (some (.ref a))) (hw : w a = .sl i) (f : Ow K (upd H a ho) w (.sl i) 1 d (.ref a)) :
    Ok K (upd H a ho) w σ (ρ.set i (some ⟨d, 1⟩)) := by
  have h0 : w a ≠ .no := by rw [hw]; intro z; cases z
  refine ⟨by rw [Env.length_set]; exact ok.len, fun j x q => ?_, fun b h => ?_⟩
  · rcases Env.get_set q with ⟨ej, z⟩ | ⟨hj, z⟩
    · subst ej
      cases z
      exact ⟨_, hi, f⟩
    · obtain ⟨u, e1, q⟩ := ok.slot j x z
      exact ⟨u, e1, q.step (Kp.write h0 (by rw [hw]; intro z; cases z; exact hj rfl))⟩
  · by_cases z : b = a
    · subst z; rw [upd_same]; exact fun q => nomatch q
    · rw [upd_ne z]; exact ok.live b h
theorem ss_setIxL {i : Nat} {x : Str} {e b : Expr} {mi mv : AE} {p tp : Pos} (hu : X.A.units + 65 < cLine) (hN : X.N[i]? = some x) (hv : Vis X.env.scope x) (hd : (x == ("__debug__" : Str)) = false) (hcd : (x == ("__classdict__" : Str)) = false) (he : SA X e mv) (hb : SA X b mi)
    (hs : swapsWithSole [.Subscript (.Name x p) b tp] e pos.line X.env = pure false) (hw : swappedStores [.Subscript (.Name x p) b tp] e X.env = pure none)
    (ha : ∀ v, assign (.Subscript (.Name x p) b tp) X.env v = (do
      let ov ← holding [v] (eval (.Name x p) X.env)
      let iv ← holding [v, ov] (eval b X.env)
      standAt tp
      holding [v, ov, iv] (setItem ov iv v)
      release [v, ov, iv] [])) (h1 : (assignEach [.Subscript (.Name x p) b tp] X.env).map (·.2) = [assign (.Subscript (.Name x p) b tp) X.env]) :
    SS X (.Assign [.Subscript (.Name x p) b tp] e pos) (mSetIx i mi mv) := by
  obtain ⟨t, q, g⟩ := he.ex
  obtain ⟨u, r, g2⟩ := hb.ex
  refine ⟨_, ps_asg q (pg_sub (pe_var hN hv hd hcd) r (set_a hu) ha) hs hw h1, fun n σ H w ρ L fl ρ' D ok hm k => ?_⟩
  obtain ⟨⟨sv, ρ1⟩, e1, hm⟩ := R.of_bind hm
  obtain ⟨⟨c, ρ2⟩, e2, hm⟩ := R.of_bind hm
  dsimp only at hm
  split at hm
  · rename_i c0 hc0
    obtain ⟨⟨si, ρ3⟩, e3, hm⟩ := R.of_bind hm
    dsimp only at hm
    refine g n σ H w ρ sv _ _ ok e1 fun v H1 w1 ok1 st1 sa => ?_
    obtain ⟨w2, ok2, st2, ow, _⟩ := esc_ok ok1 sa e2
    have ok3 : Ok X.K H1 (w2.re (.tm n) .no) σ ρ2 := ok2.re (by intro z; cases z) (by intro i z; cases z)
    have fz3 : Fz X.K H1 (w2.re (.tm n) .no) c.d v := ow.freeze (by intro z; cases z)
    have st3 : Step n H w H1 (w2.re (.tm n) .no) := (st1.trans (st2 n)).trans (Step.re not_fixed_tm)
    obtain ⟨vo, eo, _⟩ := ok3.slot i c0 hc0
    refine ⟨vo, eo, g2 n σ H1 _ ρ2 si _ _ ok3 e3 fun vi H4 w4 ok4 st4 sa4 => ?_⟩
    split at hm
    · rename_i kk _ l hck hcl
      split at hm
      · rename_i l' hl'
        cases hm
        obtain ⟨o, _, h1⟩ := sa4.cell ok4 hck
        cases ow_int h1
        obtain ⟨a, vs, ea, hH, hwa, fl4⟩ := ok4.slotLst hcl
        rw [eo] at ea
        cases ea
        obtain ⟨j, hj, f5⟩ := setD_ok hl' fl4 (st4.fz fz3)
        refine .inl ⟨a, vs, kk, j, rfl, rfl, hH, hj, ?_⟩
        exact k σ _ w4 (ok4.putLst hcl eo hwa f5) ((st3.trans st4).trans (Step.write (by rw [hwa]; exact not_fixed_sl))) fun _ _ => rfl
      · cases hm
    · rename_i kc ks ds hck hcl
      split at hm
      · rename_i hput
        cases hm
        obtain ⟨o, _, h1⟩ := sa4.cell ok4 hck
        have fv := st4.fz fz3
        obtain ⟨va, ea, owa⟩ := ok4.slot i _ hcl
        rw [eo] at ea
        cases ea
        unfold putOk at hput
        rw [Bool.and_eq_true, Bool.or_eq_true, Bool.and_eq_true, Bool.and_eq_true, decide_eq_true_eq] at hput
        obtain ⟨hkey, hlen⟩ := hput
        rw [← sizeLine_eq] at hlen
        -- the key, as a text or number
        have scal : ∀ (a : Addr) (kvs : List (Key × V)) (q : Key), vo = .ref a → H4 a = some (.dK kvs) → w4 a = .sl i → (kvs.map fun p => kD p.1) = ks → FzL X.K H4 w4 ds (kvs.map (·.2)) → keyD kc.d = some q → ∃ a' H', vo = .ref a' ∧ DPut H4 a' vi v H' ∧ D.nx σ H' := by
          intro a kvs q ev hH hwa hks fd hq
          subst hks
          have eq := keyD_eq hq
          refine ⟨a, _, ev, .inl ⟨kvs, q, hH, keyD_ow hq h1, by simpa using hlen, rfl⟩, ?_⟩
          have h0 : w4 a ≠ .no := by rw [hwa]; intro z; cases z
          have fnew : FzL X.K (upd H4 a (.dK (putK kvs q v))) w4 (dPutV (kvs.map fun p => kD p.1) ds kc.d c.d) ((putK kvs q v).map (·.2)) := by
            rw [putK_vals, ← eq]
            exact (fd.step (Kp.write (o1 := .no) h0 h0)).putV (fv.step (Kp.write (o1 := .no) h0 h0))
          refine k σ _ w4 (ok4.putAny (by rw [eo, ev]) hwa (.dct upd_same hwa (by rw [putK_keys, ← eq]) fnew)) ((st3.trans st4).trans (Step.write (by rw [hwa]; exact not_fixed_sl))) fun _ _ => rfl
        have tupl : ∀ (a : Addr) (xs : List (Z.D × Addr × Value)) (ws : List V) (b : Addr), vo = .ref a → vi = .ref b → UAt0 X H4 a xs → Mut (H4 a) → w4 a = .sl i → xs.map (·.1) = ks → FzL X.K H4 w4 ks (xs.map fun x => .ref x.2.1) → Vals ws (xs.map (·.2.2)) → FzL X.K H4 w4 ds ws → kc.d.tk = true → NkV X H4 kc.d (.ref b) → Fz X.K H4 w4 kc.d (.ref b) → rSetU X vo vi v H4 (D.nx σ) := by
          intro a xs ws b ev eb ha hmu hwa hks fk rw' fd hk kv fkey
          subst hks
          refine ⟨a, b, xs, kc.d, ev, eb, ha, hmu, hk, kv, by simpa using hlen, fun r ob rv hx => ?_⟩
          have h0 : w4 a ≠ .no := by rw [hwa]; intro z; cases z
          have kw := Kp.write (H := H4) (u := .ext fun h => h.get? a = some ob) (o1 := .no) h0 h0
          refine k σ _ w4 (ok4.putAny (by rw [eo, ev]) hwa (.dcu upd_same hwa hx uPut_keys (uPut_fk (fk.step kw) (fkey.step kw)) (uPut_vals rw' rv) ((fd.step kw).putV (fv.step kw)))) ((st3.trans st4).trans (Step.write (by rw [hwa]; exact not_fixed_sl))) fun _ _ => rfl
        cases owa with
        | @dct a kvs _ _ hH hwa hks fd =>
          rcases hkey with ⟨hs1, _⟩ | ⟨ht1, ht2⟩
          · obtain ⟨q, hq⟩ := keyD_sk hs1
            exact .inr (.inl (scal a kvs q rfl hH hwa hks fd hq))
          · obtain ⟨b, eb, kv, fkey⟩ := ow_tk ht1 h1
            have hnil : kvs = [] := by
              cases kvs with
              | nil => rfl
              | cons p r =>
                subst hks
                have : (kD p.1).tk = true := by simpa using (List.all_eq_true.mp ht2) (kD p.1) (by simp)
                rw [sk_tk kD_sk] at this
                cases this
            subst hnil
            cases hks
            exact .inr (.inr (tupl a [] [] b rfl eb (.inr ⟨rfl, .inl hH⟩) (by rw [hH]; trivial) hwa rfl .nil .nil fd ht1 kv (by rw [← eb]; exact fkey)))
        | @dcu a ob xs _ _ ws hH hwa hx hks fk rw' fd =>
          rcases hkey with ⟨_, hs2⟩ | ⟨ht1, ht2⟩
          · rw [exd_not hx hks] at hs2; cases hs2
          · obtain ⟨b, eb, kv, fkey⟩ := ow_tk ht1 h1
            exact .inr (.inr (tupl a xs ws b rfl eb (.inl (uat_of hH hx hks fk)) (by rw [hH]; trivial) hwa hks fk rw' fd ht1 kv (by rw [← eb]; exact fkey)))
      · cases hm
    · cases hm
  · cases hm
/-! ### name op= e -/
def mAug (i : Nat) (f : List Cell → R Cell) (m : AE) : MS := fun L ρ => match ρ.get i with
  | some c0 => do
    let (s, ρ1) ← m ρ
    match s.cell ρ1 with
    | some c => do
      let r ← f [⟨c0.d, 0⟩, c]
      if c0.k = 0 then (if L.contains i then R.bad else R.ok (.next, ρ1.set i (some r))) else R.bad
    | none => R.bad
  | none => R.bad
theorem iop_addAll : OpR X (inplaceOp .Add) (fun x y H Q => (rI0 (fun i j => .int (i + j)) x y H Q) ∨ (∃ i j, x = .str i ∧ y = .str j ∧ i.length + j.length ≤ sizeLine ∧ Q (.str (i ++ j)) H)) := iop_add.or iop_add_str
def fIAdd : List Cell → R Cell
  | [⟨.int i, _⟩, ⟨.int j, _⟩] => .ok (Cell.fz (.int (i + j)))
  | [⟨.str x, _⟩, ⟨.str y, _⟩] => if x.length + y.length ≤ 16777216 then .ok (Cell.fz (.str (x ++ y))) else .bad
  | _ => .bad
theorem s_iadd : CallS X (r2L fun x y H Q => (rI0 (fun i j => .int (i + j)) x y H Q) ∨ (∃ i j, x = .str i ∧ y = .str j ∧ i.length + j.length ≤ sizeLine ∧ Q (.str (i ++ j)) H)) fIAdd := by
  intro n H w σ ρ cs vs c Q ok ow e k
  unfold fIAdd at e
  split at e
  · cases e
    obtain ⟨v, u, o, q, rfl, h1, h2⟩ := ow.two
    cases ow_int h1
    cases ow_int h2
    exact .inl ⟨_, _, rfl, rfl, k _ H w ok Step.refl (.fz (.int _))⟩
  · split at e
    · cases e
      obtain ⟨v, u, o, q, rfl, h1, h2⟩ := ow.two
      cases ow_str h1
      cases ow_str h2
      exact .inr ⟨_, _, rfl, rfl, by rw [sizeLine_eq]; assumption, k _ H w ok Step.refl (.fz (.str _))⟩
    · cases e
  · cases e
/-! ### x[i] op= e, a list of ints -/
def mAugIx (i : Nat) (mi : AE) (f : List Cell → R Cell) (mv : AE) : MS := fun _ ρ => match ρ.get i with
  | some _ => do
    let (si, ρ1) ← mi ρ
    match si.cell ρ1, ρ1.get i with
    | some ⟨.int kk, _⟩, some ⟨.lst l, 1⟩ => match atI l kk with
      | some (.int old) => do
        let (sv, ρ2) ← mv ρ1
        match sv.cell ρ2 with
        | some c => do
          let r ← f [⟨.int old, 0⟩, c]
          match r, ρ2.get i with
          | ⟨.int new, _⟩, some ⟨.lst l2, 1⟩ => match setD l2 kk (.int new) with
            | some l' => R.ok (.next, ρ2.set i (some ⟨.lst l', 1⟩))
            | none => R.bad
          | _, _ => R.bad
        | none => R.bad
      | _ => R.bad
    | _, _ => R.bad
  | none => R.bad
theorem ss_augIx {i : Nat} {x : Str} {b e : Expr} {mi mv : AE} {op : Operator} {f : List Cell → R Cell} {r : R2} {p tp : Pos} (ho : OpR X (inplaceOp op) r) (hs : CallS X (r2L r) f) (hb : SA X b mi) (he : SA X e mv) (hN : X.N[i]? = some x := by rfl) (hv : Vis X.env.scope x := by first | exact Or.inl rfl | exact Or.inr (Or.inl rfl) | exact Or.inr (Or.inr rfl)) (hd : (x == ("__debug__" : Str)) = false := by decide) (hcd : (x == ("__classdict__" : Str)) = false := by decide)
    (ha : ∀ ov iv new, augStore b ov iv new = (do holding [new, ov, iv] (setItem ov iv new); release [new, ov, iv] []; pure .next) := by intros; rfl) : SS X (.AugAssign (.Subscript (.Name x p) b tp) op e pos) (mAugIx i mi f mv) := by
  obtain ⟨t, q, g⟩ := hb.ex
  obtain ⟨u, q2, g2⟩ := he.ex
  refine ⟨_, ps_augS (pe_var hN hv hd hcd) q get_list q2 ho set_list ha, fun n σ H w ρ L fl ρ' D ok hm k => ?_⟩
  unfold mAugIx at hm
  split at hm
  · rename_i c0 hc0
    obtain ⟨v0, ev0, _⟩ := ok.slot i c0 hc0
    obtain ⟨⟨si, ρ1⟩, e1, hm⟩ := R.of_bind hm
    dsimp only at hm
    split at hm
    · rename_i kk _ l hck hcl
      split at hm
      · rename_i old hold
        obtain ⟨⟨sv, ρ2⟩, e2, hm⟩ := R.of_bind hm
        dsimp only at hm
        split at hm
        · rename_i c hc
          obtain ⟨rr, e3, hm⟩ := R.of_bind hm
          split at hm
          · rename_i new _ l2 hcl2
            split at hm
            · rename_i l' hl'
              cases hm
              refine ⟨v0, ev0, g n σ H w ρ si _ _ ok e1 fun vi H1 w1 ok1 st1 sa => ?_⟩
              obtain ⟨o, _, h1⟩ := sa.cell ok1 hck
              cases ow_int h1
              obtain ⟨a, vs, ea, hH, hwa, fl1⟩ := ok1.slotLst hcl
              rw [ev0] at ea
              cases ea
              obtain ⟨vold, hvo, fo⟩ := atI_fz fl1 hold
              cases fo
              refine ⟨a, vs, kk, _, rfl, rfl, .inl (.inl hH), hvo, ?_⟩
              refine g2 n σ H1 w1 ρ1 sv _ _ ok1 e2 fun v2 H2 w2 ok2 st2 sa2 => ?_
              obtain ⟨o2, hno2, h2⟩ := sa2.cell ok2 hc
              refine hs n H2 w2 σ _ _ [.int old, v2] _ _ ok2 (.cons (o := .tm n) (by intro z; cases z) (.fz (.int old)) (.cons hno2 h2 .nil)) e3 fun v3 H3 w3 ok3 st3 ow3 => ?_
              cases ow_int ow3
              obtain ⟨a3, vs3, ea3, hH3, hwa3, fl3⟩ := ok3.slotLst hcl2
              rw [ev0] at ea3
              cases ea3
              obtain ⟨j, hj, f5⟩ := setD_ok hl' fl3 (.int new)
              refine ⟨a, vs3, kk, j, rfl, rfl, hH3, hj, ?_⟩
              exact k σ _ w3 (ok3.putLst hcl2 ev0 hwa3 f5) (((st1.trans st2).trans st3).trans (Step.write (by rw [hwa3]; exact not_fixed_sl))) fun _ _ => rfl
            · cases hm
          · cases hm
        · cases hm
      · cases hm
    · cases hm
  · cases hm

/-! ### methods of a list that stands in a slot -/
/-- f: the items, the arguments; what comes back, the items behind -/
def MethS (X : Cx) (r : V → List V → Hp → VK → Prop) (f : List D → List D → R (D × List D)) : Prop :=
  ∀ (H : Hp) (w : OM) (a : Addr) (vs us : List V) (l ds : List D) (d : D) (l' : List D) (Q : VK), H a = some (.lst vs) → FzL X.K H w l vs → FzL X.K H w ds us → f l ds = .ok (d, l') →
    (∀ v vs', Fz X.K H w d v → FzL X.K H w l' vs' → Q v (upd H a (.lst vs'))) → r (.ref a) us H Q
def mMeth (i : Nat) (f : List D → List D → R (D × List D)) (ms : List AE) : AE := fun ρ => match ρ.get i with
  | some ⟨.lst _, 1⟩ => do
    let (ss, ρ1) ← evs ms ρ
    let (ds, ρ2) ← escs ss ρ1
    match ρ2.get i with
    | some ⟨.lst l, 1⟩ => do
      let (d, l') ← f l ds
      R.ok (.v (Cell.fz d), ρ2.set i (some ⟨.lst l', 1⟩))
    | _ => R.bad
  | _ => R.bad
theorem meth_sem {i : Nat} {f : List D → List D → R (D × List D)} {ms : List AE} {r : V → List V → Hp → VK → Prop} {t : TA} (hs : MethS X r f)
    (g : ∀ (n : Nat) (σ : L2.St) (H : Hp) (w : OM) (ρ : Env) (ss : List Src) (ρ' : Env) (Q : List V → Hp → Prop), Ok X.K H w σ ρ → evs ms ρ = .ok (ss, ρ') →
      (∀ vs H' w', Ok X.K H' w' σ ρ' → Step n H w H' w' → SrcsAt X.K H' w' σ n ss vs → Q vs H') → t σ H Q) :
    ∀ (n : Nat) (σ : L2.St) (H : Hp) (w : OM) (ρ : Env) (s : Src) (ρ' : Env) (Q : VK), Ok X.K H w σ ρ → mMeth i f ms ρ = .ok (s, ρ') →
    (∀ v H' w', Ok X.K H' w' σ ρ' → Step n H w H' w' → SrcAt X.K H' w' σ n s v → Q v H') → ∃ x, σ[i]? = some (some x) ∧ tyV X.K "list" x H ∧ t σ H fun xs H2 => r x xs H2 Q := by
  intro n σ H w ρ s ρ' Q ok hm k
  unfold mMeth at hm
  split at hm
  · rename_i l0 hl0
    obtain ⟨⟨ss, ρ1⟩, e1, hm⟩ := R.of_bind hm
    obtain ⟨⟨ds, ρ2⟩, e2, hm⟩ := R.of_bind hm
    dsimp only at hm e2
    split at hm
    · rename_i l hl
      obtain ⟨⟨d, l'⟩, e3, hm⟩ := R.of_bind hm
      cases hm
      obtain ⟨a, vs0, ea, hH0, _, _⟩ := ok.slotLst hl0
      refine ⟨_, ea, .inl ⟨rfl, vs0, .inl (.inl hH0)⟩, ?_⟩
      refine g n σ H w ρ ss _ _ ok e1 fun us H1 w1 ok1 st1 sa => ?_
      obtain ⟨w2, ok2, st2, fd⟩ := escs_ok ok1 sa e2
      obtain ⟨a2, vs, ea2, hH2, hwa2, fl2⟩ := ok2.slotLst hl
      rw [ea] at ea2
      cases ea2
      refine hs H1 w2 a vs us l ds d l' Q hH2 fl2 fd e3 fun v vs' fv fl' => ?_
      have h0 : w2 a ≠ .no := by rw [hwa2]; intro z; cases z
      exact k v _ w2 (ok2.putLst hl ea hwa2 fl') ((st1.trans st2).trans (Step.write (by rw [hwa2]; exact not_fixed_sl))) (.fz (fv.step (Kp.write (o1 := .no) h0 h0)))
    · cases hm
  · cases hm
theorem sa_meth {i : Nat} {x name : Str} {id : String} {e : Expr} {es : List Expr} {ms : List AE} {f : List D → List D → R (D × List D)} {r : V → List V → Hp → VK → Prop} {p apos cpos : Pos} (slot : Slot "list" name id) (hty : typeOf (.builtin id) = pure (.type "method_descriptor")) (hm : MtR X id r) (hs : MethS X r f) (ha : SAs X (e :: es) ms)
    (hN : X.N[i]? = some x := by rfl) (hv : Vis X.env.scope x := by first | exact Or.inl rfl | exact Or.inr (Or.inl rfl) | exact Or.inr (Or.inr rfl)) (hd : (x == ("__debug__" : Str)) = false := by decide) (hcd : (x == ("__classdict__" : Str)) = false := by decide)
    (hbase : attributeBase (.Name x p) name X.env (eval (.Name x p) X.env) = eval (.Name x p) X.env := by rfl)
    (hfew : ((backTo cpos (starEach (e :: es) X.env)).all (fun x => !x.1) && (backToKw cpos (keywordEach [] X.env)).all (fun x => x.1.isSome)
      && decide ((e :: es).length + ([] : List Keyword).length + (if ([] : List Keyword).isEmpty then 0 else 1) < 30)) = true := by rfl)
    (hline : (apos.endLine == cpos.line) = true := by rfl) (hst : starEach (e :: es) X.env = (false, eval e X.env) :: starEach es X.env := by rfl) (hplain : (backTo cpos (starEach es X.env)).any (·.1) = false := by rfl) :
    SA X (.Call (.Attribute (.Name x p) name apos) (e :: es) [] cpos) (mMeth i f ms) := by
  obtain ⟨t, q, g⟩ := ha.ex
  exact ⟨_, pe_bm PySem.F.plainAttrs_list slot hty hm (pe_var hN hv hd hcd) q hbase hfew hline hst hplain, fun n σ H w ρ s ρ' Q ok hm k => meth_sem hs g n σ H w ρ s ρ' Q ok hm k⟩
def fAppend (l ds : List D) : R (D × List D) := match ds with
  | [d] => if l.length < 16777216 then .ok (.non, l ++ [d]) else .bad
  | _ => .bad
theorem s_append : MethS X rAppend fAppend := by
  intro H w a vs us l ds d l' Q hH fl fd e k
  unfold fAppend at e
  split at e
  · split at e
    · rename_i hl
      cases e
      cases fd with
      | cons f1 f2 =>
        cases f2
        exact ⟨a, vs, _, rfl, rfl, hH, by rw [sizeLine_eq, ← fl.length]; exact hl, k _ _ .non (fl.append (.cons f1 .nil))⟩
    · cases e
  · cases e
def fExtend (l ds : List D) : R (D × List D) := match ds with
  | [.lst m] => if l.length + m.length ≤ 16777216 then .ok (.non, l ++ m) else .bad
  | _ => .bad
theorem s_extend : MethS X rExtend fExtend := by
  intro H w a vs us l ds d l' Q hH fl fd e k
  unfold fExtend at e
  split at e
  · split at e
    · rename_i hl
      cases e
      cases fd with
      | cons f1 f2 =>
        cases f2
        cases f1 with
        | lst hb nb fb => exact ⟨a, _, vs, _, rfl, rfl, hH, hb, by rw [sizeLine_eq, ← fl.length, ← fb.length]; exact hl, k _ _ .non (fl.append fb)⟩
    · cases e
  · cases e
/-- pop(), pop(i) -/
def fPop0 (l ds : List D) : R (D × List D) := match ds with
  | [] => match l[l.length - 1]? with
    | some d => .ok (d, l.dropLast)
    | none => .bad
  | _ => .bad
def fPop1 (l ds : List D) : R (D × List D) := match ds with
  | [.int i] => if -(2 ^ 63) ≤ i ∧ i < 2 ^ 63 then match seqIndex? i l.length with
      | some j => match l[j]? with
        | some d => .ok (d, l.eraseIdx j)
        | none => .bad
      | none => .bad
    else .bad
  | _ => .bad
theorem s_pop1 : MethS X rPopAt fPop1 := by
  intro H w a vs us l ds d l' Q hH fl fd e k
  unfold fPop1 at e
  split at e
  · split at e
    · rename_i hi
      split at e
      · rename_i j hj
        split at e
        · rename_i hl
          cases e
          cases fd with
          | cons f1 f2 =>
            cases f2
            cases f1
            obtain ⟨v, hv, fv⟩ := fl.get hl
            exact ⟨a, vs, _, j, v, rfl, rfl, hH, hi.1, hi.2, by rw [← fl.length]; exact hj, hv, k _ _ fv (fl.eraseIdx j)⟩
        · cases e
      · cases e
    · cases e
  · cases e
/-! ### index -/
def ixOf (x : D) : Nat → List D → Option Nat
  | _, [] => none
  | j, d :: r => if d.eqv x then some j else ixOf x (j + 1) r
theorem ixOf_ok {x : D} : ∀ {l : List D} {j i : Nat}, ixOf x j l = some i → ∃ k z, i = j + k ∧ l[k]? = some z ∧ z.eqv x = true ∧ ∀ (m : Nat) (z' : D), m < k → l[m]? = some z' → z'.eqv x = false
  | [], _, _, h => by cases h
  | d :: r, j, i, h => by
    unfold ixOf at h
    split at h
    · rename_i hd
      cases h
      exact ⟨0, d, rfl, rfl, hd, fun m z' hm _ => absurd hm (Nat.not_lt_zero m)⟩
    · rename_i hd
      obtain ⟨k, z, h1, h2, h3, h4⟩ := ixOf_ok h
      refine ⟨k + 1, z, by omega, by simpa using h2, h3, fun m z' hm hz => ?_⟩
      cases m with
      | zero =>
        have hz : d = z' := by simpa using hz
        subst hz
        simpa using hd
      | succ m => exact h4 m z' (by omega) (by simpa using hz)
def fIndexL : List Cell → R Cell
  | [⟨.lst l, _⟩, c] => if (D.lst l).okd 60 && c.d.okd 60 then match ixOf c.d 0 l with
      | some j => .ok (Cell.fz (.int j))
      | none => .bad
    else .bad
  | _ => .bad
def fIndexT : List Cell → R Cell
  | [⟨.tup l, _⟩, c] => if (D.tup l).okd 60 && c.d.okd 60 then match ixOf c.d 0 l with
      | some j => .ok (Cell.fz (.int j))
      | none => .bad
    else .bad
  | _ => .bad
theorem ixOf_py {l : List D} {x : D} {j : Nat} (h : ixOf x 0 l = some j) : ∃ z, (D.pyL l)[j]? = some z ∧ PyData.eqv z x.py = true ∧ ∀ (m : Nat) (z' : PyData), m < j → (D.pyL l)[m]? = some z' → PyData.eqv z' x.py = false := by
  obtain ⟨k, z, h1, h2, h3, h4⟩ := ixOf_ok h
  rw [Nat.zero_add] at h1
  subst h1
  rw [D.pyL_map]
  refine ⟨z.py, by rw [List.getElem?_map, h2]; rfl, h3, fun m z' hm hz => ?_⟩
  rw [List.getElem?_map] at hz
  cases q : l[m]? with
  | none => rw [q] at hz; cases hz
  | some y =>
    rw [q] at hz
    cases hz
    exact h4 m y hm q
/-! ### methods that read -/
def rRecv (r : V → List V → Hp → VK → Prop) : List V → Hp → VK → Prop := fun vs H Q => match vs with
  | x :: xs => r x xs H Q
  | [] => False
def mRecv (chk : D → Bool) (f : List Cell → R Cell) (m : AE) (ms : List AE) : AE := fun ρ => do
  let (s, ρ1) ← m ρ
  match (s.cell ρ1).map (fun c => chk c.d) with
  | some true => do
    let (ss, ρ2) ← evs ms ρ1
    match cells ρ2 (s :: ss) with
    | some cs => do
      let r ← f cs
      R.ok (.v r, ρ2)
    | none => R.bad
  | _ => R.bad
theorem sa_recv {o e : Expr} {es : List Expr} {m : AE} {ms : List AE} {chk : D → Bool} {f : List Cell → R Cell} {ty : V → Hp → Prop} {r : V → List V → Hp → VK → Prop} (hs : CallS X (rRecv r) f) (ht : ∀ (H : Hp) (w : OM) (o : Own) (k : Nat) (d : D) (v : V), chk d = true → Ow X.K H w o k d v → ty v H)
    (ho : SA X o m) (ha : SAs X es ms) (hp : ∀ t u, PE X o t → PA X es u → PE X e (fun σ H Q => t σ H fun x H1 => ty x H1 ∧ u σ H1 fun xs H2 => r x xs H2 Q)) : SA X e (mRecv chk f m ms) := by
  obtain ⟨t, p, g⟩ := ho.ex
  obtain ⟨u, q, g2⟩ := ha.ex
  refine ⟨_, hp t u p q, fun n σ H w ρ s ρ' Q ok hm k => ?_⟩
  obtain ⟨⟨s1, ρ1⟩, e1, hm⟩ := R.of_bind hm
  dsimp only at hm
  split at hm
  · rename_i hck
    obtain ⟨c0, hc0, hk⟩ := Option.map_eq_some_iff.mp hck
    obtain ⟨⟨ss, ρ2⟩, e2, hm⟩ := R.of_bind hm
    dsimp only at hm
    split at hm
    · rename_i cs hcs
      obtain ⟨rr, e3, hm⟩ := R.of_bind hm
      cases hm
      refine g n σ H w ρ s1 _ _ ok e1 fun v H1 w1 ok1 st1 sa => ?_
      obtain ⟨o1, _, ow1⟩ := sa.cell ok1 hc0
      refine ⟨ht H1 w1 o1 c0.k c0.d v hk ow1, ?_⟩
      refine g2 (n + 1) σ H1 w1 ρ1 ss _ _ ok1 e2 fun vs H2 w2 ok2 st2 sa2 => ?_
      refine hs n H2 w2 σ _ cs (v :: vs) rr Q ok2 (SrcsAt.cells (n := n) (ss := s1 :: ss) (vs := v :: vs) ok2 ⟨sa.step st2 (Nat.lt_succ_self n), sa2⟩ hcs) e3 fun v3 H3 w3 ok3 st3 q3 => ?_
      exact k v3 H3 w3 ok3 ((st1.trans (st2.mono (Nat.le_succ n))).trans st3) q3
    · cases hm
  · cases hm
def isLstD : D → Bool
  | .lst _ => true
  | _ => false
def isTupD : D → Bool
  | .tup _ => true
  | _ => false
theorem s_indexL : CallS X (rRecv (rIndexD X.K)) fIndexL := s_scalar fun K H w cs vs c Q hK ow e => by
  subst hK
  unfold fIndexL at e
  split at e
  · split at e
    · rename_i l _ c1 hc
      split at e
      · rename_i j hj
        cases e
        rw [Bool.and_eq_true] at hc
        obtain ⟨v, u, o, q, rfl, h1, h2⟩ := ow.two
        obtain ⟨a, xs, rfl, _⟩ := ow_lst h1
        obtain ⟨z, z1, z2, z3⟩ := ixOf_py hj
        refine ⟨_, .int j, rfl, by simp [isSc], fun q => ⟨a, u, c1.d.py, D.pyL l, j, z, rfl, rfl, by have := h1.dp hc.1; rw [D.py] at this; exact this, h2.dp hc.2, by have := D.okd_shaped hc.1; rw [D.py] at this; exact this, D.okd_shaped hc.2, z1, z2, z3, q⟩⟩
      · cases e
    · cases e
  · cases e
theorem s_indexT : CallS X (rRecv (rTIndexD X.K)) fIndexT := s_scalar fun K H w cs vs c Q hK ow e => by
  subst hK
  unfold fIndexT at e
  split at e
  · split at e
    · rename_i l _ c1 hc
      split at e
      · rename_i j hj
        cases e
        rw [Bool.and_eq_true] at hc
        obtain ⟨v, u, o, q, rfl, h1, h2⟩ := ow.two
        obtain ⟨a, xs, rfl, _⟩ := ow_tup h1
        obtain ⟨z, z1, z2, z3⟩ := ixOf_py hj
        refine ⟨_, .int j, rfl, by simp [isSc], fun q => ⟨a, u, c1.d.py, D.pyL l, j, z, rfl, rfl, by have := h1.dp hc.1; rw [D.py] at this; exact this, h2.dp hc.2, by have := D.okd_shaped hc.1; rw [D.py] at this; exact this, D.okd_shaped hc.2, z1, z2, z3, q⟩⟩
      · cases e
    · cases e
  · cases e
def mIndex (m me : AE) : AE := fun ρ => match mRecv isLstD fIndexL m [me] ρ with
  | .ok r => .ok r
  | _ => mRecv isTupD fIndexT m [me] ρ
/-- o.index(e), o a list or a tuple -/
theorem sa_index {o e : Expr} {m me : AE} {apos cpos : Pos} (hu : X.A.units + 65 < cLine) (ho : SA X o m) (he : SA X e me) (hbase : attributeBase o "index" X.env (eval o X.env) = eval o X.env := by rfl)
    (hfew : ((backTo cpos (starEach [e] X.env)).all (fun x => !x.1) && (backToKw cpos (keywordEach [] X.env)).all (fun x => x.1.isSome)
      && decide ([e].length + ([] : List Keyword).length + (if ([] : List Keyword).isEmpty then 0 else 1) < 30)) = true := by rfl)
    (hline : (apos.endLine == cpos.line) = true := by rfl) (hst : starEach [e] X.env = (false, eval e X.env) :: starEach [] X.env := by rfl) (hplain : (backTo cpos (starEach [] X.env)).any (·.1) = false := by rfl) :
    SA X (.Call (.Attribute o "index" apos) [e] [] cpos) (mIndex m me) := by
  refine SA.either (m1 := mRecv isLstD fIndexL m [me]) (m2 := mRecv isTupD fIndexT m [me]) ?_ ?_ fun ρ s ρ' h => ?_
  · refine sa_recv s_indexL (ty := tyV X.K "list") (fun H w o k d v hc ow => ?_) ho (sas_cons he sas_nil hst) fun t u p q => pe_bm PySem.F.plainAttrs_list PySem.F.slot_list_index PySem.F.type_list_index (mt_indexD hu) p q hbase hfew hline hst hplain
    cases d with
    | lst l =>
      obtain ⟨a, xs, rfl, hH, _⟩ := ow_lst ow
      exact .inl ⟨rfl, xs, .inl (.inl hH)⟩
    | _ => cases hc
  · refine sa_recv s_indexT (ty := fun x H => ∃ p, x = .ref p ∧ TupRc X.K H p) (fun H w o k d v hc ow => ?_) ho (sas_cons he sas_nil hst) fun t u p q => pe_tm PySem.F.slot_tuple_index PySem.F.type_tuple_index (mt_tindexD hu) p q hbase hfew hline hst hplain
    cases d with
    | tup l =>
      obtain ⟨a, xs, rfl, ta, _⟩ := ow_tup ow
      exact ⟨a, rfl, ta.rc⟩
    | _ => cases hc
  · unfold mIndex at h
    split at h
    · rename_i r hr
      cases h
      exact .inl hr
    · exact .inr h

end
end Z

/-! Z: what the printed proofs lean on. -/
namespace Z
open PySem PySem.Spec PyProof.Rows L2
theorem u65 {k : Nat} {A : Around} (r : RoomG k A) : A.units + 65 < cLine := by have := r.r.un; omega
theorem u64 {k : Nat} {A : Around} (r : RoomG k A) : A.units + 64 < cLine := by have := r.r.un; omega
theorem u1 {k : Nat} {A : Around} (r : RoomG k A) : A.units + 1 < cLine := by have := r.r.un; omega
def blkB (N : List Str) (sc scope : Scope) (own : List (Str × Nat)) : Bool :=
  decide (scope.kind = .function) && scope.names.all (fun y => decide (scope.names.lookup y.1 = some y.2)) && own.all (fun p => decide (N[p.2]? = some p.1)) &&
  scope.names.all (fun y => !decide (y.2 = .free) || decide (sc.names.lookup y.1 = some .cell) || decide (sc.names.lookup y.1 = some .free)) &&
  scope.names.all (fun y => !(decide (y.2 = .local) || decide (y.2 = .cell)) || decide (y.1 ∈ own.map (·.1)) || decide (y.1 ∉ N))
theorem blk_of {N : List Str} {sc scope : Scope} {own : List (Str × Nat)} (h : blkB N sc scope own = true) : BlkOk N sc scope own := by
  unfold blkB at h
  simp only [Bool.and_eq_true, List.all_eq_true, Bool.or_eq_true, Bool.not_eq_true', decide_eq_true_eq, decide_eq_false_iff_not] at h
  obtain ⟨⟨⟨⟨h1, h2⟩, h3⟩, h4⟩, h5⟩ := h
  refine ⟨h1, h2, h3, fun y hy e => ?_, fun y hy e => ?_⟩
  · rcases h4 y hy with (z | z) | z
    · exact absurd e z
    · exact .inl z
    · exact .inr z
  · rcases h5 y hy with (z | z) | z
    · rcases e with e | e
      · simp [e] at z
      · simp [e] at z
    · exact .inl z
    · exact .inr z
theorem fn_okD {P : Program} {w : World} {K : PySem.W.Frag} {mg : Str → Option Value} {base : Heap} {x qual : Str} {pa : Arguments} {bd : List Stmt} {sc : Scope} {dvs : List V} {kws : List (Str × V)} {f : Addr} {fd : FuncData} {N ps : List Str} {k np size : Nat} {m : MS} (F : FunD K x qual pa bd sc dvs kws f fd) (S : FnScope N ps sc) (hnp : ps.length = np) (hsize : N.length = size)
    (hb : ∀ (cdv : Value) (A : Around) (outer : List PySem.Env) (s : Shared) (H : Hp) (E : XK), RoomG k (A.deeper (envOfC qual sc s.heap.objs.size f cdv)) →
      SSs (cxOf CX0 P w K mg base N qual sc f cdv A outer s H E).nox bd m) : FnOkG P w K mg base CX0 (k + 1) f fd ps (spD K np (runDef size m)) := by
  refine Z.FunD.okG F S (fun vs H Q E h => ?_) (fun cdv A outer s H vs Q E hr h => ?_)
  · obtain ⟨w, args, r, fs, h1, h2, _⟩ := h
    rw [← h2.length, h1, hnp]
  · obtain ⟨w0, args, r, fs, h1, h2, h3, h4, q⟩ := h
    obtain ⟨t, p, g⟩ := (hb cdv A outer s H E hr).ex
    refine ⟨t, p.nox, ?_⟩
    obtain ⟨⟨fl, ρ'⟩, e1, h4⟩ := R.of_bind h4
    obtain ⟨fs', e2, h4⟩ := R.of_bind h4
    have hlv : vs.length = args.length := h2.length.symm
    have hst : ∀ i v, vs[i]? = some v → (L2.start N vs)[i]? = some (some v) := fun i v hv => by
      unfold L2.start
      rw [List.getElem?_append_left (by rw [List.length_map]; exact (List.getElem?_eq_some_iff.mp hv).1), List.getElem?_map, hv]
      rfl
    have ok0 : Ok K H w0 (L2.start N vs) (args.map some ++ List.replicate (size - args.length) none) := by
      refine ⟨?_, fun i c hc => ?_, h3⟩
      · unfold L2.start
        simp only [List.length_append, List.length_map, List.length_replicate]
        rw [hlv, hsize]
      · have hi := env_get_map hc
        obtain ⟨v, hv, ow⟩ := h2.get hi
        rw [Nat.zero_add] at ow
        exact ⟨v, hst i v hv, ow⟩
    refine g 0 (L2.start N vs) H w0 _ (locks 0 args) fl ρ' _ ok0 e1 fun σ' H' w' ok' st' lk => ?_
    have fin := fins_ok (σ := start N vs) ok' (vs := vs) h2.length e2 (fun i v hv => by rw [Nat.zero_add]; exact hst i v hv) (fun i c hc hk => lk _ (locks_mem hc hk))
    cases fl with
    | next =>
      cases h4
      exact q .non H' w' ok'.live st' (.fz .non) fin
    | ret c =>
      cases h4
      exact fun v ow => q v H' w' ok'.live st' ow fin
    | brk => cases h4
    | cont => cases h4
theorem fz_ints {K : PySem.W.Frag} {H : Hp} {w : OM} : ∀ ns : List Int, FzL K H w (ns.map D.int) (ns.map V.int)
  | [] => .nil
  | n :: r => .cons (.int n) (fz_ints r)
/-- the law's answer -/
theorem law_sp {K : PySem.W.Frag} {c : FD} {H : Hp} {a : Addr} {ns : List Int} {fs : List Cell} (hS : SqL K H a (ns.map V.int)) (h : c [⟨.scr (ns.map D.int), 0⟩] = .ok (Cell.fz (.bl true), fs)) : spD K 1 c [.ref a] H (fun v _ => v = .bl true) fun _ _ _ => False := by
  refine ⟨fun _ => .no, [⟨.scr (ns.map D.int), 0⟩], Cell.fz (.bl true), fs, rfl, ⟨?_, trivial⟩, fun _ z => absurd rfl z, h, fun v H' w' _ _ ow _ => ?_⟩
  · refine .fz (.scr ?_ (fz_ints ns))
    rcases hS with h | h
    · exact .inl ⟨h, rfl⟩
    · exact .inr h
  · cases ow with
    | fz f => cases f; rfl
end Z

/-! Z: to compute with the pure functions. -/
namespace Z
open PySem PySem.Spec PyProof.Rows L2
section
variable {L : List Nat} {ρ : Env} {i : Nat}
@[simp] theorem get_z {c : Option Cell} {r : Env} : Env.get (c :: r) 0 = c := rfl
@[simp] theorem get_s {c : Option Cell} {r : Env} {n : Nat} : Env.get (c :: r) (n + 1) = Env.get r n := rfl
@[simp] theorem set_z {c x : Option Cell} {r : Env} : Env.set (c :: r) 0 x = x :: r := rfl
@[simp] theorem set_s {c x : Option Cell} {r : Env} {n : Nat} : Env.set (c :: r) (n + 1) x = c :: Env.set r n x := rfl
@[simp] theorem fz_eq {d : D} : Cell.fz d = ⟨d, 0⟩ := rfl

@[simp] theorem src_v {c : Cell} : Src.cell ρ (.v c) = some c := rfl
@[simp] theorem src_s : Src.cell ρ (.s i) = ρ.get i := rfl
@[simp] theorem aC_ap {d : D} : aC d ρ = .ok (.v (Cell.fz d), ρ) := rfl
theorem aVar_ap : aVar i ρ = (match ρ.get i with | some _ => .ok (.s i, ρ) | none => .bad) := rfl
@[simp] theorem aVar_z {c : Cell} {r : Env} : aVar 0 (some c :: r) = .ok (.s 0, some c :: r) := rfl
@[simp] theorem evs_nil : evs [] ρ = .ok ([], ρ) := rfl
@[simp] theorem evs_cons {m : AE} {ms : List AE} : evs (m :: ms) ρ = (do let (s, ρ1) ← m ρ; let (ss, ρ2) ← evs ms ρ1; R.ok (s :: ss, ρ2)) := rfl
@[simp] theorem cells_nil : cells ρ [] = some [] := rfl
@[simp] theorem cells_cons {s : Src} {ss : List Src} : cells ρ (s :: ss) = (match s.cell ρ, cells ρ ss with | some c, some cs => some (c :: cs) | _, _ => none) := rfl
@[simp] theorem mPrim_ap {f : List Cell → R Cell} {ms : List AE} : mPrim f ms ρ = (do let (ss, ρ1) ← evs ms ρ; match cells ρ1 ss with | some cs => (do let c ← f cs; R.ok (.v c, ρ1)) | none => R.bad) := rfl
@[simp] theorem esc_v {c : Cell} : esc (.v c) ρ = .ok (c, ρ) := rfl
@[simp] theorem esc_s : esc (.s i) ρ = (match ρ.get i with | some ⟨d, 0⟩ => .ok (Cell.fz d, ρ) | some ⟨d, _ + 1⟩ => .ok (Cell.fz d, ρ.set i (some ⟨d, 0⟩)) | none => .bad) := rfl
@[simp] theorem escs_nil : escs [] ρ = .ok ([], ρ) := rfl
@[simp] theorem escs_cons {s : Src} {ss : List Src} : escs (s :: ss) ρ = (do let (c, ρ1) ← esc s ρ; let (ds, ρ2) ← escs ss ρ1; R.ok (c.d :: ds, ρ2)) := rfl
@[simp] theorem mTup_ap {ms : List AE} : mTup ms ρ = (do let (ss, ρ1) ← evs ms ρ; let (ds, ρ2) ← escs ss ρ1; R.ok (.v (Cell.fz (.tup ds)), ρ2)) := rfl
@[simp] theorem mLst_ap {ms : List AE} : mLst ms ρ = (do let (ss, ρ1) ← evs ms ρ; let (ds, ρ2) ← escs ss ρ1; R.ok (.v ⟨.lst ds, 1⟩, ρ2)) := rfl
@[simp] theorem take_v {c : Cell} : take L (.v c) ρ = .ok (c, ρ) := rfl
@[simp] theorem take_s : take L (.s i) ρ = (match ρ.get i with | some ⟨d, 0⟩ => .ok (Cell.fz d, ρ) | some ⟨d, k + 1⟩ => if L.contains i then .ok (Cell.fz d, ρ.set i (some ⟨d, 0⟩)) else .ok (⟨d, k + 1⟩, ρ.set i none) | none => .bad) := rfl
@[simp] theorem mTest_ap {a : AE} : mTest a ρ = (do let (s, ρ1) ← a ρ; match s.cell ρ1 with | some c => (match truth c.d with | some b => R.ok (b, ρ1) | none => R.bad) | none => R.bad) := rfl
@[simp] theorem mNotT_ap {a : MT} : mNotT a ρ = (do let (b, ρ1) ← a ρ; R.ok (!b, ρ1)) := rfl
@[simp] theorem mAndT_ap {a b : MT} : mAndT a b ρ = (do let (c, ρ1) ← a ρ; if c then b ρ1 else R.ok (false, ρ1)) := rfl
@[simp] theorem mOrT_ap {a b : MT} : mOrT a b ρ = (do let (c, ρ1) ← a ρ; if c then R.ok (true, ρ1) else b ρ1) := rfl
@[simp] theorem mNotV_ap {a : AE} : mNotV a ρ = (do let (b, ρ1) ← mTest a ρ; R.ok (.v (Cell.fz (.bl (!b))), ρ1)) := rfl
@[simp] theorem mAndV_ap {a b : AE} : mAndV a b ρ = (do let (s, ρ1) ← a ρ; match s.cell ρ1 with | some ⟨.bl c, _⟩ => if c then b ρ1 else R.ok (.v (Cell.fz (.bl false)), ρ1) | _ => R.bad) := rfl
@[simp] theorem mOrV_ap {a b : AE} : mOrV a b ρ = (do let (s, ρ1) ← a ρ; match s.cell ρ1 with | some ⟨.bl c, _⟩ => if c then R.ok (.v (Cell.fz (.bl true)), ρ1) else b ρ1 | _ => R.bad) := rfl
@[simp] theorem mIfE_ap {t : MT} {a b : AE} : mIfE t a b ρ = (do let (c, ρ1) ← t ρ; if c then a ρ1 else b ρ1) := rfl
@[simp] theorem mSeq_ap {a b : MS} : mSeq a b L ρ = (do let (fl, ρ1) ← a L ρ; match fl with | .next => b L ρ1 | f => R.ok (f, ρ1)) := rfl
@[simp] theorem mNext_ap : mNext L ρ = .ok (.next, ρ) := rfl
@[simp] theorem mBrk_ap : mBrk L ρ = .ok (.brk, ρ) := rfl
@[simp] theorem mCont_ap : mCont L ρ = .ok (.cont, ρ) := rfl
@[simp] theorem mExpr_ap {m : AE} : mExpr m L ρ = (do let (_, ρ1) ← m ρ; R.ok (.next, ρ1)) := rfl
@[simp] theorem mRet_ap {m : AE} : mRet m L ρ = (do let (s, ρ1) ← m ρ; let (c, ρ2) ← take L s ρ1; R.ok (.ret c, ρ2)) := rfl
@[simp] theorem mRetN_ap : mRetN L ρ = .ok (.ret (Cell.fz .non), ρ) := rfl
@[simp] theorem mSet_ap {m : AE} : mSet i m L ρ = (do let (s, ρ1) ← m ρ; let (c, ρ2) ← take L s ρ1; if L.contains i then R.bad else R.ok (.next, ρ2.set i (some c))) := rfl
@[simp] theorem mIf_ap {t : MT} {a b : MS} : mIf t a b L ρ = (do let (c, ρ1) ← t ρ; if c then a L ρ1 else b L ρ1) := rfl
@[simp] theorem gN_ap {d : D} : gN i d L ρ = if L.contains i then .bad else .ok (ρ.set i (some (Cell.fz d))) := rfl
@[simp] theorem mAsg_ap {g : MG} {m : AE} : mAsg g m L ρ = (do let (s, ρ1) ← m ρ; let (c, ρ2) ← esc s ρ1; let ρ3 ← g c.d L ρ2; R.ok (.next, ρ3)) := rfl
@[simp] theorem gT_ap {n : Nat} {gs : List D → List Nat → Env → R Env} {ds : List D} : gT n gs (.tup ds) L ρ = if ds.length = n then gs ds L ρ else .bad := rfl
@[simp] theorem gsNil_ap : gsNil [] L ρ = .ok ρ := rfl
@[simp] theorem gsCons_ap {g : MG} {gs : List D → List Nat → Env → R Env} {d : D} {r : List D} : gsCons g gs (d :: r) L ρ = (do let ρ1 ← g d L ρ; gs r L ρ1) := rfl
@[simp] theorem mFor_ap {mi : MI} {g : MG} {body : MS} : mFor mi g body L ρ = (do let (it, ρ1) ← mi ρ; loopF it g body (match it.chk with | some i => i :: L | none => L) it.items ρ1) := rfl
@[simp] theorem mItems_ap {a : AE} : mItems a ρ = (do
  let (s, ρ1) ← a ρ
  match s with
  | .v c => match itemsOf c.d with
    | some l => R.ok (⟨l, none⟩, ρ1)
    | none => R.bad
  | .s i => match ρ1.get i with
    | some ⟨d, 0⟩ => match itemsOf d with
      | some l => R.ok (⟨l, none⟩, ρ1)
      | none => R.bad
    | some ⟨.lst l, 1⟩ => R.ok (⟨l, some i⟩, ρ1)
    | some ⟨.lst l, 2⟩ => R.ok (⟨l, none⟩, ρ1.set i (some ⟨.lst l, 0⟩))
    | _ => R.bad) := rfl
@[simp] theorem mRange1_ap {a : AE} : mRange1 a ρ = (do
  let (s, ρ1) ← a ρ
  match s.cell ρ1 with
  | some ⟨.int j, _⟩ => if rgB 0 j then R.ok (⟨rgD 0 j, none⟩, ρ1) else R.bad
  | _ => R.bad) := rfl
@[simp] theorem mRange2_ap {a b : AE} : mRange2 a b ρ = (do
  let (s, ρ1) ← a ρ
  let (u, ρ2) ← b ρ1
  match s.cell ρ2, u.cell ρ2 with
  | some ⟨.int i, _⟩, some ⟨.int j, _⟩ => if rgB i j then R.ok (⟨rgD i j, none⟩, ρ2) else R.bad
  | _, _ => R.bad) := rfl
@[simp] theorem mRg1_ap {a : AE} : mRg1 a ρ = (do let (s, ρ1) ← a ρ; match s.cell ρ1 with | some ⟨.int j, _⟩ => R.ok (((0 : Int), j), ρ1) | _ => R.bad) := rfl
@[simp] theorem mListRg_ap {m : Env → R ((Int × Int) × Env)} : mListRg m ρ = (do let (x, ρ1) ← m ρ; if rgOkB x.1 x.2 then R.ok (.v ⟨.lst (rgD x.1 x.2), 1⟩, ρ1) else R.bad) := rfl
@[simp] theorem mTupRg_ap {m : Env → R ((Int × Int) × Env)} : mTupRg m ρ = (do let (x, ρ1) ← m ρ; if rgOkB x.1 x.2 then R.ok (.v (Cell.fz (.tup (rgD x.1 x.2))), ρ1) else R.bad) := rfl
@[simp] theorem mComp_ap {mi : MI} {g : MG} {tt : MT} {me : AE} {vs : List Nat} : mComp mi g tt me vs ρ = (do
  let (it, ρ1) ← mi ρ
  if ownOk ρ1 vs && decide (it.items.length ≤ 16777216) && chkOk it (wipeE ρ1 vs) then do
    let (acc, ρ2) ← loopC it g tt me vs it.items (wipeE ρ1 vs)
    R.ok (.v ⟨.lst acc, 1⟩, restore ρ2 ρ1 vs)
  else R.bad) := rfl
@[simp] theorem mYes_ap : mYes ρ = .ok (true, ρ) := rfl
@[simp] theorem mSetIx_ap {mi mv : AE} : mSetIx i mi mv L ρ = (do
  let (sv, ρ1) ← mv ρ
  let (c, ρ2) ← esc sv ρ1
  match ρ2.get i with
  | some _ => do
    let (si, ρ3) ← mi ρ2
    match si.cell ρ3, ρ3.get i with
    | some ⟨.int k, _⟩, some ⟨.lst l, 1⟩ => match setD l k c.d with
      | some l' => R.ok (.next, ρ3.set i (some ⟨.lst l', 1⟩))
      | none => R.bad
    | some kc, some ⟨.dct ks ds, 1⟩ => if putOk kc.d ks then R.ok (.next, ρ3.set i (some ⟨.dct (dPutK ks kc.d) (dPutV ks ds kc.d c.d), 1⟩)) else R.bad
    | _, _ => R.bad
  | none => R.bad) := rfl
@[simp] theorem mAug_ap {f : List Cell → R Cell} {m : AE} : mAug i f m L ρ = (match ρ.get i with
  | some c0 => do
    let (s, ρ1) ← m ρ
    match s.cell ρ1 with
    | some c => do
      let r ← f [⟨c0.d, 0⟩, c]
      if c0.k = 0 then (if L.contains i then R.bad else R.ok (.next, ρ1.set i (some r))) else R.bad
    | none => R.bad
  | none => R.bad) := rfl
@[simp] theorem mAugIx_ap {mi mv : AE} {f : List Cell → R Cell} : mAugIx i mi f mv L ρ = (match ρ.get i with
  | some _ => do
    let (si, ρ1) ← mi ρ
    match si.cell ρ1, ρ1.get i with
    | some ⟨.int kk, _⟩, some ⟨.lst l, 1⟩ => match atI l kk with
      | some (.int old) => do
        let (sv, ρ2) ← mv ρ1
        match sv.cell ρ2 with
        | some c => do
          let r ← f [⟨.int old, 0⟩, c]
          match r, ρ2.get i with
          | ⟨.int new, _⟩, some ⟨.lst l2, 1⟩ => match setD l2 kk (.int new) with
            | some l' => R.ok (.next, ρ2.set i (some ⟨.lst l', 1⟩))
            | none => R.bad
          | _, _ => R.bad
        | none => R.bad
      | _ => R.bad
    | _, _ => R.bad
  | none => R.bad) := rfl
@[simp] theorem mMeth_ap {f : List D → List D → R (D × List D)} {ms : List AE} : mMeth i f ms ρ = (match ρ.get i with
  | some ⟨.lst _, 1⟩ => do
    let (ss, ρ1) ← evs ms ρ
    let (ds, ρ2) ← escs ss ρ1
    match ρ2.get i with
    | some ⟨.lst l, 1⟩ => do
      let (d, l') ← f l ds
      R.ok (.v (Cell.fz d), ρ2.set i (some ⟨.lst l', 1⟩))
    | _ => R.bad
  | _ => R.bad) := rfl
@[simp] theorem mRecv_ap {chk : D → Bool} {f : List Cell → R Cell} {m : AE} {ms : List AE} : mRecv chk f m ms ρ = (do
  let (s, ρ1) ← m ρ
  match (s.cell ρ1).map (fun c => chk c.d) with
  | some true => do
    let (ss, ρ2) ← evs ms ρ1
    match cells ρ2 (s :: ss) with
    | some cs => do
      let r ← f cs
      R.ok (.v r, ρ2)
    | none => R.bad
  | _ => R.bad) := rfl
@[simp] theorem mCall_ap {f : FD} {ms : List AE} : mCall f ms ρ = (do
  let (ss, ρ1) ← evs ms ρ
  let cs ← args ρ1 ss
  if dupF (ioSlots ρ1 ss) then do
    let (r, fs) ← f cs
    R.ok (.v r, back ρ1 ss fs ρ1)
  else R.bad) := rfl
@[simp] theorem args_nil : args ρ [] = .ok [] := rfl
@[simp] theorem args_cons {s : Src} {ss : List Src} : args ρ (s :: ss) = (do let cs ← args ρ ss; match s.cell ρ with | some c => R.ok (c :: cs) | none => R.bad) := rfl
@[simp] theorem io_nil : ioSlots ρ [] = [] := rfl
@[simp] theorem io_v {c : Cell} {ss : List Src} : ioSlots ρ (.v c :: ss) = ioSlots ρ ss := rfl
@[simp] theorem io_s {ss : List Src} : ioSlots ρ (.s i :: ss) = (match ρ.get i with | some ⟨_, 0⟩ => ioSlots ρ ss | _ => i :: ioSlots ρ ss) := rfl
@[simp] theorem dupF_nil : dupF [] = true := rfl
@[simp] theorem dupF_cons {r : List Nat} : dupF (i :: r) = (!r.contains i && dupF r) := rfl
@[simp] theorem back_nil {ρ0 : Env} {cs : List Cell} : back ρ0 [] cs ρ = ρ := by cases cs <;> rfl
@[simp] theorem back_v {ρ0 : Env} {c c' : Cell} {ss : List Src} {cs : List Cell} : back ρ0 (.v c :: ss) (c' :: cs) ρ = back ρ0 ss cs ρ := rfl
@[simp] theorem back_s {ρ0 : Env} {c' : Cell} {ss : List Src} {cs : List Cell} : back ρ0 (.s i :: ss) (c' :: cs) ρ = (match ρ0.get i with | some ⟨_, 0⟩ => back ρ0 ss cs ρ | _ => back ρ0 ss cs (ρ.set i (some c'))) := rfl
theorem runDef_ap {size : Nat} {m : MS} {as : List Cell} : runDef size m as = (do
  let (fl, ρ) ← m (locks 0 as) (as.map some ++ List.replicate (size - as.length) none)
  let fs ← fins ρ 0 as
  match fl with
  | .ret c => R.ok (c, fs)
  | .next => R.ok (Cell.fz .non, fs)
  | _ => R.bad) := rfl
@[simp] theorem locks_nil {j : Nat} : locks j [] = [] := rfl
@[simp] theorem locks_cons {j : Nat} {c : Cell} {r : List Cell} : locks j (c :: r) = if c.k = 0 then locks (j + 1) r else j :: locks (j + 1) r := rfl
@[simp] theorem fins_nil {j : Nat} : fins ρ j [] = .ok [] := rfl
@[simp] theorem fins_cons {j : Nat} {c : Cell} {r : List Cell} : fins ρ j (c :: r) = (do
    let fs ← fins ρ (j + 1) r
    if c.k = 0 then R.ok (c :: fs) else match ρ.get j with
      | some c' => R.ok (c' :: fs)
      | none => R.bad) := rfl
end
/-! primitives on ints -/
section
variable {i j : Int} {k k' : Nat}
@[simp] theorem p_sub : fSub [⟨.int i, k⟩, ⟨.int j, k'⟩] = .ok (Cell.fz (.int (i - j))) := rfl
@[simp] theorem p_add : fAdd [⟨.int i, k⟩, ⟨.int j, k'⟩] = .ok (Cell.fz (.int (i + j))) := rfl
@[simp] theorem p_iadd : fIAdd [⟨.int i, k⟩, ⟨.int j, k'⟩] = .ok (Cell.fz (.int (i + j))) := rfl
@[simp] theorem p_neg : fNeg [⟨.int i, k⟩] = .ok (Cell.fz (.int (-i))) := rfl
@[simp] theorem p_cmp {p : Int → Int → Bool} : fCmp p [⟨.int i, k⟩, ⟨.int j, k'⟩] = .ok (Cell.fz (.bl (p i j))) := rfl
@[simp] theorem p_int : fInt [⟨.int i, k⟩] = .ok (Cell.fz (.int i)) := rfl
@[simp] theorem p_intB {b : Bool} : fInt [⟨.bl b, k⟩] = .ok (Cell.fz (.int (if b then 1 else 0))) := rfl
@[simp] theorem p_abs : fAbs [⟨.int i, k⟩] = .ok (Cell.fz (.int (if i < 0 then -i else i))) := rfl
theorem p_mul (h : cmul i j = true) : fMul [⟨.int i, k⟩, ⟨.int j, k'⟩] = .ok (Cell.fz (.int (i * j))) := by unfold fMul; simp [h]
theorem p_mulR (h : -(2 ^ 64) < j ∧ j < 2 ^ 64) : fMul [⟨.int i, k⟩, ⟨.int j, k'⟩] = .ok (Cell.fz (.int (i * j))) := p_mul (by unfold cmul; rw [decide_eq_true h]; simp)
theorem p_mulL (h : -(2 ^ 64) < i ∧ i < 2 ^ 64) : fMul [⟨.int i, k⟩, ⟨.int j, k'⟩] = .ok (Cell.fz (.int (i * j))) := p_mul (by unfold cmul; rw [decide_eq_true h]; simp)
theorem p_div (h : 0 < j ∧ j < 4611686018427387904) : fDiv [⟨.int i, k⟩, ⟨.int j, k'⟩] = .ok (Cell.fz (.int (i / j))) := by unfold fDiv fI2; simp [h]
theorem p_pow (h : cpow i j = true) : fPow [⟨.int i, k⟩, ⟨.int j, k'⟩] = .ok (Cell.fz (.int (i ^ j.toNat))) := by unfold fPow fI2; simp [h]
theorem p_shl (h : cpow i j = true) : fShl [⟨.int i, k⟩, ⟨.int j, k'⟩] = .ok (Cell.fz (.int (i * 2 ^ j.toNat))) := by unfold fShl fI2; simp [h]
theorem p_shr (h : 0 ≤ j) : fShr [⟨.int i, k⟩, ⟨.int j, k'⟩] = .ok (Cell.fz (.int (i / 2 ^ j.toNat))) := by unfold fShr fI2; simp [h]
@[simp] theorem p_band : fBand [⟨.int i, k⟩, ⟨.int j, k'⟩] = .ok (Cell.fz (.int (Builtin.bitAnd i j))) := rfl
theorem p_mod (h : 0 < j) : fMod [⟨.int i, k⟩, ⟨.int j, k'⟩] = .ok (Cell.fz (.int (i % j))) := by unfold fMod fI2; simp [h]
@[simp] theorem truth_bl {b : Bool} : truth (.bl b) = some b := rfl
@[simp] theorem truth_lst {l : List D} : truth (.lst l) = some (!l.isEmpty) := rfl
@[simp] theorem truth_tup {l : List D} : truth (.tup l) = some (!l.isEmpty) := rfl
@[simp] theorem len_tup {l : List D} : fLen [⟨.tup l, k⟩] = .ok (Cell.fz (.int l.length)) := rfl
@[simp] theorem len_lst {l : List D} : fLen [⟨.lst l, k⟩] = .ok (Cell.fz (.int l.length)) := rfl
@[simp] theorem len_scr {l : List D} : fLen [⟨.scr l, k⟩] = .ok (Cell.fz (.int l.length)) := rfl
theorem atI_nat {α : Type} {l : List α} {n : Nat} (h : n < l.length) : atI l (n : Int) = some l[n] := by
  unfold atI ixN
  simp [h]
theorem p_ixL {l : List D} {d : D} (hk : k ≤ 1) (h : atI l i = some d) : fIx [⟨.lst l, k⟩, ⟨.int i, k'⟩] = .ok (Cell.fz d) := by
  show (if k ≤ 1 then _ else _) = _
  rw [if_pos hk, h]
theorem p_ixT {l : List D} {d : D} (h : atI l i = some d) : fIx [⟨.tup l, k⟩, ⟨.int i, k'⟩] = .ok (Cell.fz d) := by
  show (match atI l i with | some d => R.ok (Cell.fz d) | none => .bad) = _
  rw [h]
@[simp] theorem ix_0 {a : D} {r : List D} : atI (a :: r) 0 = some a := by
  unfold atI ixN
  simp
end
/-! ### what comes out -/
def Ret {α : Type} (r : R α) (P : α → Prop) : Prop := ∃ x, r = .ok x ∧ P x
theorem Ret.ok {α : Type} {x : α} {P : α → Prop} (h : P x) : Ret (.ok x) P := ⟨x, rfl, h⟩
@[simp] theorem Ret_ok {α : Type} {x : α} {P : α → Prop} : Ret (.ok x) P ↔ P x := ⟨fun ⟨y, e, h⟩ => by cases e; exact h, Ret.ok⟩
theorem Ret.bind {α β : Type} {r : R α} {f : α → R β} {P : α → Prop} {Q : β → Prop} (h : Ret r P) (k : ∀ x, P x → Ret (f x) Q) : Ret (r >>= f) Q := by
  obtain ⟨x, rfl, hx⟩ := h
  exact k x hx
theorem Ret.mono {α : Type} {r : R α} {P Q : α → Prop} (h : Ret r P) (k : ∀ x, P x → Q x) : Ret r Q := by
  obtain ⟨x, rfl, hx⟩ := h
  exact ⟨x, rfl, k x hx⟩
/-- a loop keeps what it keeps; it may end by a return -/
theorem loopF_inv {it : ItD} {g : MG} {body : MS} {L : List Nat} {I : List D → Env → Prop} {P : Cell → Env → Prop} (h : ∀ d r ρ, I (d :: r) ρ → Ret (g d L ρ) fun ρ1 => Ret (body L ρ1) fun x => match x.1 with
      | .ret c => P c x.2
      | .brk => False
      | _ => chkOk it x.2 = true ∧ I r x.2) : ∀ {ds : List D} {ρ : Env}, I ds ρ → Ret (loopF it g body L ds ρ) fun x => match x.1 with
      | .ret c => P c x.2
      | .next => I [] x.2
      | _ => False
  | [], ρ, hI => ⟨_, rfl, hI⟩
  | d :: r, ρ, hI => by
    obtain ⟨ρ1, e1, ⟨fl, ρ2⟩, e2, hx⟩ := h d r ρ hI
    unfold loopF
    rw [e1]
    simp only [R.ok_bind]
    rw [e2]
    simp only [R.ok_bind]
    cases fl with
    | ret c => exact ⟨_, rfl, hx⟩
    | brk => exact hx.elim
    | next => dsimp only at hx ⊢; rw [if_pos hx.1]; exact loopF_inv h hx.2
    | cont => dsimp only at hx ⊢; rw [if_pos hx.1]; exact loopF_inv h hx.2
/-- a loop that never leaves early -/
theorem loopF_go {it : ItD} {g : MG} {body : MS} {L : List Nat} {I : List D → Env → Prop} (h : ∀ d r ρ, I (d :: r) ρ → Ret (g d L ρ) fun ρ1 => Ret (body L ρ1) fun x => (x.1 = .next ∨ x.1 = .cont) ∧ chkOk it x.2 = true ∧ I r x.2) {ds : List D} {ρ : Env} (hI : I ds ρ) :
    ∃ ρ', loopF it g body L ds ρ = .ok (.next, ρ') ∧ I [] ρ' := by
  obtain ⟨⟨fl, ρ'⟩, e, hx⟩ := loopF_inv (it := it) (g := g) (body := body) (L := L) (P := fun _ _ => False) (I := I) (fun d r ρ hI => (h d r ρ hI).mono fun ρ1 h1 => h1.mono fun x hx => by
    rcases hx.1 with e | e <;> rw [e] <;> exact hx.2) hI
  cases fl with
  | ret c => exact hx.elim
  | next => exact ⟨_, e, hx⟩
  | brk => exact hx.elim
  | cont => exact hx.elim
/-- a comprehension: each datum gives one, or none -/
theorem loopC_inv {it : ItD} {g : MG} {tt : MT} {me : AE} {vs : List Nat} {I : List D → List D → Env → Prop} (h : ∀ d r acc ρ, I (d :: r) acc ρ → Ret (g d [] ρ) fun ρa => Ret (tt ρa) fun x =>
      if x.1 = true then Ret (me x.2) fun y => Ret (esc y.1 y.2) fun z => chkOk it (wipeE z.2 vs) = true ∧ I r (acc ++ [z.1.d]) (wipeE z.2 vs) else chkOk it (wipeE x.2 vs) = true ∧ I r acc (wipeE x.2 vs)) :
    ∀ {ds acc : List D} {ρ : Env}, I ds acc ρ → ∃ out ρ', loopC it g tt me vs ds ρ = .ok (out, ρ') ∧ I [] (acc ++ out) ρ'
  | [], acc, ρ, hI => ⟨[], ρ, rfl, by rw [List.append_nil]; exact hI⟩
  | d :: r, acc, ρ, hI => by
    obtain ⟨ρa, e1, ⟨b, ρb⟩, e2, hx⟩ := h d r acc ρ hI
    unfold loopC
    rw [e1]
    simp only [R.ok_bind]
    rw [e2]
    simp only [R.ok_bind]
    cases b with
    | true =>
      rw [if_pos rfl] at hx
      obtain ⟨⟨s, ρc⟩, e3, ⟨c, ρd⟩, e4, e5, hI2⟩ := hx
      obtain ⟨out, ρ', e6, hI3⟩ := loopC_inv h hI2
      dsimp only at e4
      refine ⟨c.d :: out, ρ', ?_, by simpa using hI3⟩
      simp only [if_true]
      rw [e3]
      simp only [R.ok_bind]
      rw [e4]
      simp only [R.ok_bind]
      rw [if_pos e5, e6]
      rfl
    | false =>
      rw [if_neg (by intro z; cases z)] at hx
      obtain ⟨out, ρ', e6, hI3⟩ := loopC_inv h hx.2
      refine ⟨out, ρ', ?_, hI3⟩
      simp only [Bool.false_eq_true, if_false]
      dsimp only at hx
      rw [if_pos hx.1, e6]
end Z

/-! Z: what the laws draw. -/
namespace Z
open PySem PySem.Spec PyProof.Rows L2
def m_begin : MS := (mSeq (mRet (mLst [(mComp (mItems (aVar 0)) (gN 1) mYes (mPrim fInt [(aVar 1)]) [1]), (aC (.int 0)), (aC (.int 0)), (aC (.int 7))])) mNext)
def c_begin : FD := runDef 2 m_begin
def m_draw : MS := (mSeq (mIf (mTest (mPrim fGt [(mPrim fIx [(aVar 0), (aC (.int 2))]), (aC (.int 0))])) (mSeq (mSet 2 (mPrim fIx [(aVar 0), (aC (.int 2))])) (mSeq (mSetIx 0 (aC (.int 2)) (mPrim fDiv [(aVar 2), (aVar 1)])) (mSeq (mRet (mPrim fMod [(mPrim fInt [(aVar 2)]), (aVar 1)])) mNext))) mNext) (mSeq (mSet 3 (aC (.int 0))) (mSeq (mIf (mTest (mPrim fLt [(mPrim fIx [(aVar 0), (aC (.int 1))]), (mPrim fLen [(mPrim fIx [(aVar 0), (aC (.int 0))])])])) (mSeq (mSet 4 (mPrim fIx [(mPrim fIx [(aVar 0), (aC (.int 0))]), (mPrim fIx [(aVar 0), (aC (.int 1))])])) (mSeq (mSet 3 (mPrim fAdd [(mPrim fMul [(aC (.int 2)), (mPrim fAbs [(aVar 4)])]), (mPrim fInt [(mPrim fLt [(aVar 4), (aC (.int 0))])])])) mNext)) mNext) (mSeq (mAugIx 0 (aC (.int 1)) fIAdd (aC (.int 1))) (mSeq (mIf (mTest (mPrim fGe [(aVar 3), (mPrim fMul [(aC (.int 2)), (mPrim fPow [(aC (.int 10)), (aC (.int 18))])])])) (mSeq (mSet 2 (mPrim fMod [(mPrim fInt [(mPrim fDiv [(aVar 3), (aC (.int 2))])]), (mPrim fShl [(aC (.int 1)), (aC (.int 6000))])])) (mSeq (mSetIx 0 (aC (.int 2)) (mPrim fDiv [(aVar 2), (aVar 1)])) (mSeq (mRet (mPrim fMod [(mPrim fInt [(aVar 2)]), (aVar 1)])) mNext))) mNext) (mSeq (mSetIx 0 (aC (.int 3)) (mPrim fMod [(mPrim fInt [(mPrim fAdd [(mPrim fAdd [(mPrim fAdd [(mPrim fMul [(mPrim fIx [(aVar 0), (aC (.int 3))]), (aC (.int 48271))]), (mPrim fMul [(mPrim fMod [(mPrim fInt [(aVar 3)]), (aC (.int 2147483629))]), (aC (.int 16807))])]), (mPrim fMul [(mPrim fIx [(aVar 0), (aC (.int 1))]), (aC (.int 69621))])]), (aC (.int 11))])]), (aC (.int 2147483647))])) (mSeq (mRet (mPrim fMod [(mPrim fInt [(mPrim fDiv [(mPrim fIx [(aVar 0), (aC (.int 3))]), (aC (.int 16))])]), (aVar 1)])) mNext)))))))
def c_draw : FD := runDef 5 m_draw
def m_pick : MS := (mSeq (mRet (mPrim fIx [(aVar 1), (mCall c_draw [(aVar 0), (mPrim fLen [(aVar 1)])])])) mNext)
def c_pick : FD := runDef 2 m_pick
def m_rare : MS := (mSeq (mRet (mPrim fEq [(mCall c_draw [(aVar 0), (aVar 1)]), (mPrim fDiv [(aVar 1), (aC (.int 2))])])) mNext)
def c_rare : FD := runDef 2 m_rare
def m_shuffled : MS := (mSeq (mSet 2 (mPrim fList [(aVar 1)])) (mSeq (mSet 3 (mLst [])) (mSeq (mFor (mRange1 (mPrim fLen [(aVar 2)])) (gN 4) (mSeq (mExpr (mMeth 3 fAppend [(mMeth 2 fPop1 [(mCall c_draw [(aVar 0), (mPrim fLen [(aVar 2)])])])])) mNext)) (mSeq (mRet (aVar 3)) mNext))))
def c_shuffled : FD := runDef 5 m_shuffled
/-- the state that is drawn from -/
def dS (ns : List Int) (a b e : Int) : Cell := ⟨.lst [.lst (ns.map D.int), .int a, .int b, .int e], 1⟩
def DSt (c : Cell) : Prop := ∃ (ns : List Int) (a b e : Int), c = dS ns a b e ∧ 0 ≤ a ∧ 0 ≤ b ∧ 0 ≤ e
theorem draw_ok {c : Cell} {many : Int} (h : DSt c) (h0 : 0 < many) (h1 : many < 4611686018427387904) : ∃ (n : Int) (c' : Cell), c_draw [c, ⟨.int many, 0⟩] = .ok (⟨.int n, 0⟩, [c', ⟨.int many, 0⟩]) ∧ DSt c' ∧ 0 ≤ n ∧ n < many := by
  obtain ⟨ns, a, b, e, rfl, ha, hb, he⟩ := h
  have hm : ∀ x : Int, 0 ≤ x % many ∧ x % many < many := fun x => ⟨Int.emod_nonneg _ (by omega), Int.emod_lt_of_pos _ h0⟩
  have i1 : ∀ (x y z t : D), atI [x, y, z, t] 1 = some y := fun _ _ _ _ => rfl
  have i2 : ∀ (x y z t : D), atI [x, y, z, t] 2 = some z := fun _ _ _ _ => rfl
  have i3 : ∀ (x y z t : D), atI [x, y, z, t] 3 = some t := fun _ _ _ _ => rfl
  have s1 : ∀ (x y z t u : D), setD [x, y, z, t] 1 u = some [x, u, z, t] := fun _ _ _ _ _ => rfl
  have s2 : ∀ (x y z t u : D), setD [x, y, z, t] 2 u = some [x, y, u, t] := fun _ _ _ _ _ => rfl
  have s3 : ∀ (x y z t u : D), setD [x, y, z, t] 3 u = some [x, y, z, u] := fun _ _ _ _ _ => rfl
  unfold c_draw m_draw
  by_cases hb0 : 0 < b
  · refine ⟨b % many, dS ns a (b / many) e, ?_, ⟨ns, a, b / many, e, rfl, ha, Int.ediv_nonneg hb (by omega), he⟩, hm b⟩
    simp [runDef_ap, dS, Env.get, Env.set, aVar_ap, p_ixL, i1, i2, i3, s1, s2, s3, hb0, p_div, p_mod, h0, h1]
  · have hb1 : b = 0 := by omega
    have c1 : cpow 10 18 = true := rfl
    have c2 : cpow 1 6000 = true := rfl
    have big : (0 : Int) < 2 ^ 6000 := by exact Int.pow_pos (by decide)
    by_cases ha1 : a < ns.length
    · obtain ⟨x, hx⟩ : ∃ x : Int, atI (ns.map D.int) a = some (.int x) := by
        obtain ⟨m, rfl⟩ := Int.eq_ofNat_of_zero_le ha
        refine ⟨ns[m]'(by simpa using ha1), ?_⟩
        rw [atI_nat (by simpa using ha1)]
        simp
      obtain ⟨z, hz, hz0⟩ : ∃ z : Int, z = 2 * (if x < 0 then -x else x) + (if x < 0 then 1 else 0) ∧ 0 ≤ z := ⟨_, rfl, by split <;> omega⟩
      by_cases hs : 2000000000000000000 ≤ z
      · refine ⟨z / 2 % 2 ^ 6000 % many, dS ns (a + 1) (z / 2 % 2 ^ 6000 / many) e, ?_, ⟨ns, _, _, e, rfl, by omega, Int.ediv_nonneg (Int.emod_nonneg _ (by omega)) (by omega), he⟩, hm _⟩
        simp [runDef_ap, dS, Env.get, Env.set, aVar_ap, p_ixL, i1, i2, i3, s1, s2, s3, hb1, p_div, p_mod, p_mulL, p_mulR, p_pow, p_shl, c1, c2, h0, h1, ha1, hx, ← hz, hs, big]
      · refine ⟨((e * 48271 + z % 2147483629 * 16807 + (a + 1) * 69621 + 11) % 2147483647) / 16 % many, dS ns (a + 1) 0 ((e * 48271 + z % 2147483629 * 16807 + (a + 1) * 69621 + 11) % 2147483647), ?_, ⟨ns, _, _, _, rfl, by omega, by omega, Int.emod_nonneg _ (by decide)⟩, hm _⟩
        simp [runDef_ap, dS, Env.get, Env.set, aVar_ap, p_ixL, i1, i2, i3, s1, s2, s3, hb1, p_div, p_mod, p_mulL, p_mulR, p_pow, p_shl, c1, c2, h0, h1, ha1, hx, ← hz, hs, big]
    · have hs : ¬ (2000000000000000000 : Int) ≤ 0 := by decide
      refine ⟨((e * 48271 + 0 % 2147483629 * 16807 + (a + 1) * 69621 + 11) % 2147483647) / 16 % many, dS ns (a + 1) 0 ((e * 48271 + 0 % 2147483629 * 16807 + (a + 1) * 69621 + 11) % 2147483647), ?_, ⟨ns, _, _, _, rfl, by omega, by omega, Int.emod_nonneg _ (by decide)⟩, hm _⟩
      simp [runDef_ap, dS, Env.get, Env.set, aVar_ap, p_ixL, i1, i2, i3, s1, s2, s3, hb1, p_div, p_mod, p_mulL, p_mulR, p_pow, p_shl, c1, c2, h0, h1, ha1,  hs, big]
/-- the script's numbers -/
theorem begin_ok {ns : List Int} (hl : ns.length ≤ 63) : c_begin [⟨.scr (ns.map D.int), 0⟩] = .ok (dS ns 0 0 7, [⟨.scr (ns.map D.int), 0⟩]) := by
  obtain ⟨out, ρ', e, hI⟩ := loopC_inv (it := ⟨ns.map D.int, none⟩) (g := gN 1) (tt := mYes) (me := mPrim fInt [aVar 1]) (vs := [1]) (I := fun l acc ρ => acc ++ l = ns.map D.int ∧ (∀ d ∈ l, ∃ i : Int, d = .int i) ∧ ρ = [some ⟨.scr (ns.map D.int), 0⟩, none])
    (fun d r acc ρ ⟨h1, h2, h3⟩ => by
      obtain ⟨i, rfl⟩ := h2 d (List.mem_cons_self ..)
      subst h3
      simp [aVar_ap, wipeE, chkOk, ← h1]
      exact fun x hx => h2 x (List.mem_cons_of_mem _ hx)) (ds := ns.map D.int) (acc := []) (ρ := [some ⟨.scr (ns.map D.int), 0⟩, none]) ⟨rfl, by simp, rfl⟩
  obtain ⟨h1, _, h3⟩ := hI
  subst h3
  simp only [List.nil_append, List.append_nil] at h1
  subst h1
  have hl : ns.length ≤ 16777216 := by omega
  simp [c_begin, m_begin, runDef_ap, itemsOf, aVar_ap, ownOk, chkOk, wipeE, restore, e, dS, hl]
theorem DSt.k {c : Cell} (h : DSt c) : ∃ l, c = ⟨.lst l, 1⟩ := by
  obtain ⟨ns, a, b, e, rfl, _⟩ := h
  exact ⟨_, rfl⟩
theorem get_mem {l : List D} {n : Int} (h : 0 ≤ n) (h1 : n < l.length) : ∃ d, atI l n = some d ∧ d ∈ l := by
  obtain ⟨m, rfl⟩ := Int.eq_ofNat_of_zero_le h
  have hm : m < l.length := by omega
  exact ⟨l[m], atI_nat hm, List.getElem_mem hm⟩
theorem erase_perm : ∀ {l : List D} {m : Nat} (h : m < l.length), (l[m] :: l.eraseIdx m).Perm l
  | a :: l, 0, _ => List.Perm.refl _
  | a :: l, m + 1, h => (List.Perm.swap _ _ _).trans ((erase_perm (l := l) (m := m) (by simpa using h)).cons a)
theorem pop_ok {l : List D} {n : Int} (h : 0 ≤ n) (h1 : n < l.length) (hl : l.length < 4611686018427387904) : ∃ d l', fPop1 l [.int n] = .ok (d, l') ∧ (d :: l').Perm l := by
  obtain ⟨m, rfl⟩ := Int.eq_ofNat_of_zero_le h
  have hm : m < l.length := by omega
  refine ⟨l[m], l.eraseIdx m, ?_, erase_perm hm⟩
  have e : seqIndex? (m : Int) l.length = some m := by
    unfold seqIndex?
    have : ¬ ((m : Int) < 0) := by omega
    simp [this, hm]
  unfold fPop1
  simp only [e]
  rw [if_pos ⟨by omega, by omega⟩, List.getElem?_eq_getElem hm]
theorem rgB_nat {n : Nat} (h : n ≤ 16777216) : rgB 0 (n : Int) = true := by
  unfold rgB
  rw [decide_eq_true_eq]
  omega
theorem rgD_nat {n : Nat} : rgD 0 (n : Int) = (List.range n).map fun (i : Nat) => D.int (i : Int) := by
  unfold rgD
  simp
theorem shuffled_ok {c : Cell} {l : List D} {k : Nat} (h : DSt c) (hk : k ≤ 1) (h1 : l.length ≤ 16777216) : ∃ (l' : List D) (c' : Cell), c_shuffled [c, ⟨.lst l, k⟩] = .ok (⟨.lst l', 1⟩, [c', ⟨.lst l, k⟩]) ∧ DSt c' ∧ l'.Perm l := by
  obtain ⟨ρ', e, hI⟩ := loopF_go (it := ⟨rgD 0 (l.length : Int), none⟩) (g := gN 4) (body := mSeq (mExpr (mMeth 3 fAppend [mMeth 2 fPop1 [mCall c_draw [aVar 0, mPrim fLen [aVar 2]]]])) mNext) (L := locks 0 [c, ⟨.lst l, k⟩])
    (I := fun r ρ => ∃ c' left found x, ρ = [some c', some ⟨.lst l, k⟩, some ⟨.lst left, 1⟩, some ⟨.lst found, 1⟩, x] ∧ DSt c' ∧ left.length = r.length ∧ (found ++ left).Perm l)
    (fun d r ρ ⟨c', left, found, x, h1, h2, h3, h4⟩ => by
      subst h1
      have hlen := h4.length_eq
      rw [List.length_append, h3, List.length_cons] at hlen
      obtain ⟨n, c2, e, hc, hn⟩ := draw_ok (many := (left.length : Int)) h2 (by rw [h3, List.length_cons]; omega) (by rw [h3, List.length_cons]; omega)
      obtain ⟨y, left', e2, hp⟩ := pop_ok (l := left) hn.1 hn.2 (by rw [h3, List.length_cons]; omega)
      obtain ⟨m, rfl⟩ := h.k
      obtain ⟨m1, rfl⟩ := h2.k
      obtain ⟨m2, rfl⟩ := hc.k
      have hf : found.length < 16777216 := by omega
      have e3 : fAppend found [y] = .ok (.non, found ++ [y]) := by unfold fAppend; simp [hf]
      have hl' : left'.length = r.length := by have := hp.length_eq; rw [h3] at this; simpa using this
      have hp2 : (found ++ [y] ++ left').Perm l := by
        rw [List.append_assoc]
        exact (List.Perm.append_left found hp).trans h4
      obtain rfl | rfl : k = 0 ∨ k = 1 := by omega
      all_goals simp -implicitDefEqProofs [aVar_ap, e, e2, e3, chkOk]

      all_goals exact ⟨_, _, _, ⟨rfl, rfl, rfl⟩, hc, hl', hp2⟩)
    (ds := rgD 0 (l.length : Int)) (ρ := [some c, some ⟨.lst l, k⟩, some ⟨.lst l, 1⟩, some ⟨.lst [], 1⟩, none]) ⟨c, l, [], none, rfl, h, by rw [rgD_length]; omega, by simp⟩
  obtain ⟨c', left, found, x, rfl, h2, h3, h4⟩ := hI
  obtain ⟨m, rfl⟩ := h.k
  obtain ⟨m1, rfl⟩ := h2.k
  have : left = [] := List.length_eq_zero_iff.mp h3
  subst this
  refine ⟨found, _, ?_, h2, by simpa using h4⟩
  have hL : fList [⟨.lst l, k⟩] = .ok ⟨.lst l, 1⟩ := by
    show (if k ≤ 1 then _ else _) = _
    rw [if_pos hk]
  obtain rfl | rfl : k = 0 ∨ k = 1 := by omega
  all_goals
    simp only [locks_cons, locks_nil] at e
    simp at e
    simp -implicitDefEqProofs [c_shuffled, m_shuffled, runDef_ap, aVar_ap, hL, rgB_nat h1, e]
end Z

namespace Z
open PySem PySem.Spec PyProof.Rows L2
@[simp] theorem f_eqI {i j : Int} {k k' : Nat} : fEq [⟨.int i, k⟩, ⟨.int j, k'⟩] = .ok ⟨.bl (decide (i = j)), 0⟩ := by
  unfold fEq
  have e : D.eqv (.int i) (.int j) = decide (i = j) := by
    show (i == j) = _
    by_cases q : i = j <;> simp [q]
  simp only [D.okd, Bool.and_true, if_true, e]
  rfl
/-! ### the computing, with proofs of each step -/
@[simp] theorem isi_str {x : Str} {k : Nat} : fIsi "str" [⟨.str x, k⟩] = .ok ⟨.bl true, 0⟩ := by unfold fIsi; simp [isT]
theorem f_ext {l m : List D} (h : l.length ≤ 10000) (h' : m.length ≤ 10000) : fExtend l [.lst m] = .ok (.non, l ++ m) := by
  unfold fExtend
  simp only
  rw [if_pos (by omega)]
@[simp] theorem f_listT {l : List D} {k : Nat} : fList [⟨.tup l, k⟩] = .ok ⟨.lst l, 1⟩ := rfl
@[simp] theorem f_tupL1 {l : List D} : fTuple [⟨.lst l, 1⟩] = .ok ⟨.tup l, 0⟩ := rfl
@[simp] theorem ix_1 {a b : D} {r : List D} : atI (a :: b :: r) 1 = some b := by
  have h : 1 < (a :: b :: r).length := by simp
  exact (atI_nat h).trans rfl
@[simp] theorem ix_2 {a b c : D} {r : List D} : atI (a :: b :: c :: r) 2 = some c := by
  have h : 2 < (a :: b :: c :: r).length := by simp
  exact (atI_nat h).trans rfl
@[simp] theorem ix_3 {a b c d : D} {r : List D} : atI (a :: b :: c :: d :: r) 3 = some d := by
  have h : 3 < (a :: b :: c :: d :: r).length := by simp
  exact (atI_nat h).trans rfl

/-- a comprehension without a condition over frozen data: elt is computed from the datum -/
theorem comp_map {g : MG} {me : AE} {vs : List Nat} {ρ0 : Env} {f : D → D} {it : ItD} (hit : it.chk = none) {ds : List D} (h : ∀ d ∈ ds, ∃ ρa s ρc ρd k, g d [] (wipeE ρ0 vs) = .ok ρa ∧ me ρa = .ok (s, ρc) ∧ esc s ρc = .ok (⟨f d, k⟩, ρd) ∧ wipeE ρd vs = wipeE ρ0 vs) :
    loopC it g mYes me vs ds (wipeE ρ0 vs) = .ok (ds.map f, wipeE ρ0 vs) := by
  induction ds with
  | nil => rfl
  | cons d r ih =>
    obtain ⟨ρa, s, ρc, ρd, k, e1, e2, e3, e4⟩ := h d (List.mem_cons_self ..)
    unfold loopC
    have ec : chkOk it (wipeE ρ0 vs) = true := by unfold chkOk; rw [hit]
    rw [e1]
    simp only [R.ok_bind, mYes_ap, if_true]
    rw [e2]
    simp only [R.ok_bind]
    rw [e3]
    simp only [R.ok_bind]
    rw [e4, if_pos ec, ih fun x hx => h x (List.mem_cons_of_mem _ hx)]
    rfl
end Z

/-! Z: calls by keywords. -/
namespace Z
open PySem PySem.Spec PyProof.Rows L2
structure SKs (X : Cx) (kws : List Keyword) (ms : List AE) : Prop where
  ex : ∃ t, PK X kws t ∧ ∀ (n : Nat) (σ : L2.St) (H : Hp) (w : OM) (ρ : Env) (ss : List Src) (ρ' : Env) (Q : List V → Hp → Prop), Ok X.K H w σ ρ → evs ms ρ = .ok (ss, ρ') →
    (∀ vs H' w', Ok X.K H' w' σ ρ' → Step n H w H' w' → SrcsAt X.K H' w' σ n ss vs → Q vs H') → t σ H Q
/-! put in another order -/
def reord {α : Type} (perm : List Nat) (l : List α) : List α := perm.filterMap (l[·]?)
/-- may stand anywhere among the arguments: a slot, or frozen -/
def Src.free : Src → Bool
  | .s _ => true
  | .v c => decide (c.k = 0)
theorem SrcAt.any {K : PySem.W.Frag} {H : Hp} {w : OM} {σ : L2.St} {n m : Nat} {s : Src} {v : V} (h : SrcAt K H w σ n s v) (hf : s.free = true) : SrcAt K H w σ m s v := by
  cases s with
  | s i => exact h
  | v c =>
    obtain ⟨d, k⟩ := c
    cases (of_decide_eq_true hf : k = 0)
    cases (show Ow K H w (.tm n) 0 d v from h) with
    | fz q => exact .fz q
theorem SrcsAt.get {K : PySem.W.Frag} {H : Hp} {w : OM} {σ : L2.St} : ∀ {ss : List Src} {vs : List V} {n i : Nat}, SrcsAt K H w σ n ss vs → (ss[i]? = none ∧ vs[i]? = none) ∨ ∃ s v, ss[i]? = some s ∧ vs[i]? = some v ∧ SrcAt K H w σ (n + i) s v
  | [], [], _, _, _ => .inl ⟨rfl, rfl⟩
  | [], _ :: _, _, _, h => h.elim
  | _ :: _, [], _, _, h => h.elim
  | s :: ss, v :: vs, n, 0, ⟨h, t⟩ => .inr ⟨s, v, rfl, rfl, h⟩
  | s :: ss, v :: vs, n, i + 1, ⟨h, t⟩ => by
    rcases SrcsAt.get (i := i) t with ⟨e1, e2⟩ | ⟨s', v', e1, e2, q⟩
    · exact .inl ⟨by simpa using e1, by simpa using e2⟩
    · exact .inr ⟨s', v', by simpa using e1, by simpa using e2, by rw [show n + (i + 1) = n + 1 + i by omega]; exact q⟩
def mCallKw (f : FD) (perm : List Nat) (np : Nat) (ms : List AE) : AE := fun ρ => do
  let (ss, ρ1) ← evs ms ρ
  let cs ← args ρ1 (reord perm ss)
  if ss.all Src.free && decide ((reord perm ss).length = np) && dupF (ioSlots ρ1 (reord perm ss)) then do
    let (r, fs) ← f cs
    R.ok (.v r, back ρ1 (reord perm ss) fs ρ1)
  else R.bad
@[simp] theorem mCallKw_ap {f : FD} {perm : List Nat} {np : Nat} {ms : List AE} {ρ : Env} : mCallKw f perm np ms ρ = (do
  let (ss, ρ1) ← evs ms ρ
  let cs ← args ρ1 (reord perm ss)
  if ss.all Src.free && decide ((reord perm ss).length = np) && dupF (ioSlots ρ1 (reord perm ss)) then do
    let (r, fs) ← f cs
    R.ok (.v r, back ρ1 (reord perm ss) fs ρ1)
  else R.bad) := rfl
end Z

/-! Z: equality, membership, numbers: what many laws need. -/
namespace Z
open PySem PySem.Spec PyProof.Rows L2
/-- numbers of things -/
def nL (ps : List Nat) : List D := ps.map fun (i : Nat) => D.int (i : Int)
def nD (ps : List Nat) : D := .tup (nL ps)
def iL (is : List Int) : List D := is.map D.int
def iD (is : List Int) : D := .tup (iL is)
theorem rgD_nL {n : Nat} : rgD 0 (n : Int) = nL (List.range n) := rgD_nat
/-! ### more of the laws' own small defs -/
def m_is_int : MS := (mSeq (mRet (mAndV (mPrim (fIsi "int") [(aVar 0)]) (mNotV (mPrim (fIsi "bool") [(aVar 0)])))) mNext)
def c_is_int : FD := runDef 1 m_is_int
def m_is_ints : MS := (mSeq (mRet (mAndV (mPrim (fIsi "tuple") [(aVar 0)]) (mPrim fAll [(mComp (mItems (aVar 0)) (gN 1) mYes (mCall c_is_int [(aVar 1)]) [1])]))) mNext)
def c_is_ints : FD := runDef 2 m_is_ints
@[simp] theorem isi_int_int {x : Int} {k : Nat} : fIsi "int" [⟨.int x, k⟩] = .ok ⟨.bl true, 0⟩ := by unfold fIsi; simp [isT]
@[simp] theorem isi_bool_int {x : Int} {k : Nat} : fIsi "bool" [⟨.int x, k⟩] = .ok ⟨.bl false, 0⟩ := by unfold fIsi; simp [isT]
@[simp] theorem isi_tup_tup {x : List D} {k : Nat} : fIsi "tuple" [⟨.tup x, k⟩] = .ok ⟨.bl true, 0⟩ := by unfold fIsi; simp [isT]
theorem is_int_ok {i : Int} : c_is_int [⟨.int i, 0⟩] = .ok (⟨.bl true, 0⟩, [⟨.int i, 0⟩]) := by
  simp -implicitDefEqProofs [c_is_int, m_is_int, runDef_ap, aVar_ap]
theorem is_ints_ok {is : List Int} (hl : is.length ≤ 5000) : c_is_ints [⟨iD is, 0⟩] = .ok (⟨.bl true, 0⟩, [⟨iD is, 0⟩]) := by
  have e := comp_map (g := gN 1) (me := mCall c_is_int [aVar 1]) (vs := [1]) (ρ0 := [some ⟨iD is, 0⟩, none]) (it := ⟨iL is, none⟩) (f := fun _ => .bl true) rfl (ds := iL is) (fun d hd => by
    obtain ⟨i, hi, rfl⟩ := List.mem_map.mp hd
    refine ⟨[some ⟨iD is, 0⟩, some ⟨.int i, 0⟩], .v ⟨.bl true, 0⟩, [some ⟨iD is, 0⟩, some ⟨.int i, 0⟩], [some ⟨iD is, 0⟩, some ⟨.int i, 0⟩], 0, ?_, ?_, rfl, ?_⟩
    · simp [wipeE]
    · simp -implicitDefEqProofs [aVar_ap, is_int_ok]
    · simp [wipeE])
  have ea : fAll [⟨.lst ((iL is).map fun _ => D.bl true), 1⟩] = .ok ⟨.bl true, 0⟩ := by
    have : ∀ l : List D, asBls (l.map fun _ => D.bl true) = some (l.map fun _ => true) := fun l => by
      induction l with
      | nil => rfl
      | cons a r ih => rw [List.map_cons, asBls, ih]; rfl
    unfold fAll onBls
    simp only [this]
    simp
  have hl2 : (iL is).length ≤ 16777216 := by unfold iL; simp; omega
  unfold iD at *
  simp [wipeE] at e
  simp -implicitDefEqProofs [c_is_ints, m_is_ints, runDef_ap, aVar_ap, itemsOf, ownOk, chkOk, hl2, wipeE, e, restore, ea]
end Z

/-! ZG1: tuples of numbers and of such tuples, in their order. -/
namespace Z
open PySem PySem.Spec PyProof.Rows L2
@[reducible] def iOrd : KeyOrd where
  α := Int
  blt := fun a b => decide (a < b)
  irrefl a := by simp
  trans a b c h1 h2 := by
    have := of_decide_eq_true h1
    have := of_decide_eq_true h2
    exact decide_eq_true (by omega)
  negTrans a b c h := by
    have h' := of_decide_eq_true h
    by_cases hab : a < b
    · exact .inl (decide_eq_true hab)
    · exact .inr (decide_eq_true (show b < c by omega))
  total a b h1 h2 := by
    have h1' := of_decide_eq_false h1
    have h2' := of_decide_eq_false h2
    show a = b
    omega
/-! the tokens of a key: before each item of a tuple 1, behind the last 0 -/
mutual
def enc : NestedKey → List Int
  | .num i => [i]
  | .tup l => encL l
  | .none => [0]
  | .text _ => [0]
def encL : List NestedKey → List Int
  | [] => [0]
  | k :: r => 1 :: (enc k ++ encL r)
end
/-- shapes: a number; a tuple of any length of things of one shape; a tuple with a shape for each place -/
inductive Shp where
  | num | seq (s : Shp) | fix (l : List Shp)
mutual
def Shp.fits : Shp → NestedKey → Bool
  | .num, .num _ => true
  | .seq s, .tup l => l.all fun k => s.fits k
  | .fix ss, .tup l => Shp.fitsL ss l
  | _, _ => false
def Shp.fitsL : List Shp → List NestedKey → Bool
  | [], [] => true
  | s :: ss, k :: l => s.fits k && Shp.fitsL ss l
  | _, _ => false
end
abbrev lx : List Int → List Int → Bool := lexLt iOrd
theorem lx_app (a r t : List Int) : lx (a ++ r) (a ++ t) = lx r t := by
  induction a with
  | nil => rfl
  | cons x a ih => rw [List.cons_append, List.cons_append]; exact (lex_self (O := iOrd) x _ _).trans ih
/-- two lists of keys, place by place of one shape -/
inductive Al : List NestedKey → List NestedKey → Prop
  | nil {l : List NestedKey} : Al [] l
  | nil' {l : List NestedKey} : Al l []
  | cons {s : Shp} {k j : NestedKey} {l m : List NestedKey} : s.fits k = true → s.fits j = true → Al l m → Al (k :: l) (j :: m)
theorem al_seq {s : Shp} : ∀ {l m : List NestedKey}, (l.all fun k => s.fits k) = true → (m.all fun k => s.fits k) = true → Al l m
  | [], _, _, _ => .nil
  | _ :: _, [], _, _ => .nil'
  | k :: l, j :: m, h1, h2 => by
    simp only [List.all_cons, Bool.and_eq_true] at h1 h2
    exact .cons h1.1 h2.1 (al_seq h1.2 h2.2)
theorem al_fix : ∀ {ss : List Shp} {l m : List NestedKey}, Shp.fitsL ss l = true → Shp.fitsL ss m = true → Al l m
  | _, [], _, _, _ => .nil
  | _, _ :: _, [], _, _ => .nil'
  | [], _ :: _, _ :: _, h, _ => by simp [Shp.fitsL] at h
  | s :: ss, k :: l, j :: m, h1, h2 => by
    simp only [Shp.fitsL, Bool.and_eq_true] at h1 h2
    exact .cons h1.1 h2.1 (al_fix h1.2 h2.2)
theorem fits_cases {s : Shp} {x y : NestedKey} (h1 : s.fits x = true) (h2 : s.fits y = true) : (∃ i j, x = .num i ∧ y = .num j) ∨ ∃ l m, x = .tup l ∧ y = .tup m ∧ Al l m := by
  cases s with
  | num => cases x <;> simp [Shp.fits] at h1; cases y <;> simp [Shp.fits] at h2; exact .inl ⟨_, _, rfl, rfl⟩
  | seq s => cases x <;> simp [Shp.fits] at h1; cases y <;> simp [Shp.fits] at h2; exact .inr ⟨_, _, rfl, rfl, al_seq (by simpa using h1) (by simpa using h2)⟩
  | fix ss => cases x <;> simp [Shp.fits] at h1; cases y <;> simp [Shp.fits] at h2; exact .inr ⟨_, _, rfl, rfl, al_fix h1 h2⟩
mutual
theorem lx_enc : ∀ (x y : NestedKey) {s : Shp} {r t : List Int}, s.fits x = true → s.fits y = true → x ≠ y → lx (enc x ++ r) (enc y ++ t) = lx (enc x) (enc y)
  | .num i, y, s, r, t, h1, h2, hne => by
    rcases fits_cases h1 h2 with ⟨a, b, e1, e2⟩ | ⟨l, m, e1, _⟩
    · cases e1
      subst e2
      have hab : i ≠ b := fun e => hne (by rw [e])
      simp only [enc, List.singleton_append]
      rw [show lx (i :: r) (b :: t) = _ from lex_diff (O := iOrd) hab, show lx [i] [b] = _ from lex_diff (O := iOrd) hab]
    · cases e1
  | .tup l, y, s, r, t, h1, h2, hne => by
    rcases fits_cases h1 h2 with ⟨a, b, e1, _⟩ | ⟨l', m, e1, e2, al⟩
    · cases e1
    · cases e1
      subst e2
      simp only [enc]
      exact lx_encL l m al (fun e => hne (by rw [e]))
  | .none, y, s, r, t, h1, h2, hne => by
    rcases fits_cases h1 h2 with ⟨a, b, e1, _⟩ | ⟨l', m, e1, _⟩ <;> cases e1
  | .text _, y, s, r, t, h1, h2, hne => by
    rcases fits_cases h1 h2 with ⟨a, b, e1, _⟩ | ⟨l', m, e1, _⟩ <;> cases e1
theorem lx_encL : ∀ (l m : List NestedKey) {r t : List Int}, Al l m → l ≠ m → lx (encL l ++ r) (encL m ++ t) = lx (encL l) (encL m)
  | [], [], _, _, _, hne => absurd rfl hne
  | [], j :: m, r, t, _, _ => by
    simp only [encL, List.singleton_append, List.cons_append, List.nil_append]
    rw [show lx (0 :: r) (1 :: _) = _ from lex_diff (O := iOrd) (by decide), show lx [0] (1 :: _) = _ from lex_diff (O := iOrd) (by decide)]
  | k :: l, [], r, t, _, _ => by
    simp only [encL, List.singleton_append, List.cons_append, List.nil_append]
    rw [show lx (1 :: _) (0 :: t) = _ from lex_diff (O := iOrd) (by decide), show lx (1 :: _) [0] = _ from lex_diff (O := iOrd) (by decide)]
  | k :: l, j :: m, r, t, al, hne => by
    cases al with
    | cons h1 h2 al =>
      simp only [encL, List.cons_append, List.append_assoc]
      rw [show lx (1 :: _) (1 :: _) = _ from lex_self (O := iOrd) 1 _ _, show lx (1 :: (enc k ++ encL l)) (1 :: _) = _ from lex_self (O := iOrd) 1 _ _]
      by_cases e : k = j
      · subst e
        rw [show lexLt iOrd _ _ = _ from lx_app (enc k) _ _, show lexLt iOrd (enc k ++ encL l) (enc k ++ encL m) = _ from lx_app (enc k) _ _]
        exact lx_encL l m al (fun e => hne (by rw [e]))
      · rw [show lexLt iOrd _ _ = _ from lx_enc k j h1 h2 e, show lexLt iOrd (enc k ++ encL l) (enc j ++ encL m) = _ from lx_enc k j h1 h2 e]
end
/-- the order of two tuples, place by place -/
theorem lx_lexAt : ∀ (l m : List NestedKey), Al l m → Ob.lexAt (fun j => NestedKey.beq (l.getD j .none) (m.getD j .none)) (fun j => lx (enc (l.getD j .none)) (enc (m.getD j .none))) (decide (l.length < m.length)) 0 (min l.length m.length) = lx (encL l) (encL m)
  | [], [], _ => by simp [Ob.lexAt_zero, encL, lx]; exact (lex_irrefl (O := iOrd) [0]).symm
  | [], j :: m, _ => by
    simp only [List.length_nil, Nat.zero_min, Ob.lexAt_zero, encL]
    rw [show lx [0] (1 :: _) = _ from lex_diff (O := iOrd) (by decide)]
    simp
  | k :: l, [], _ => by
    simp only [List.length_nil, Nat.min_zero, Ob.lexAt_zero, encL]
    rw [show lx (1 :: _) [0] = _ from lex_diff (O := iOrd) (by decide)]
    simp
  | k :: l, j :: m, al => by
    cases al with
    | cons h1 h2 al =>
      have ih := lx_lexAt l m al
      rw [List.length_cons, List.length_cons, Nat.add_min_add_right, Ob.lexAt_succ]
      have sh : ∀ {e r : Nat → Bool} {z : Bool} (k i : Nat), Ob.lexAt e r z (i + 1) k = Ob.lexAt (fun j => e (j + 1)) (fun j => r (j + 1)) z i k := by
        intro e r z k
        induction k with
        | zero => intro i; rfl
        | succ k ih => intro i; rw [Ob.lexAt_succ, Ob.lexAt_succ, ih]
      rw [sh]
      simp only [List.getD_cons_zero, List.getD_cons_succ, Nat.add_lt_add_iff_right]
      rw [ih]
      simp only [encL]
      rw [show lx (1 :: (enc k ++ encL l)) (1 :: _) = _ from lex_self (O := iOrd) 1 _ _]
      by_cases e : k = j
      · subst e
        rw [NestedKey.beq_self, if_pos rfl, show lexLt iOrd (enc k ++ encL l) (enc k ++ encL m) = _ from lx_app (enc k) _ _]
      · have hb : NestedKey.beq k j = false := by
          cases q : NestedKey.beq k j with
          | false => rfl
          | true => exact absurd (NestedKey.eq_of_beq _ _ q) e
        rw [hb, show lexLt iOrd (enc k ++ encL l) (enc j ++ encL m) = _ from lx_enc k j h1 h2 e]
        rfl
/-! ### keys of numbers alone, in the heap -/
mutual
inductive NIs (h : Heap) : NestedKey → Value → Prop
  | int (i : Int) (t : Tok) : NIs h (.num i) (.int i t)
  | tup {a : Addr} {o : Obj} {vs : Array Value} {n : Nat} {ks : List NestedKey} : h.get? a = some o → o.cls = .type "tuple" → o.data = .seq vs n → NAll h ks vs.toList → NIs h (.tup ks) (.ref a)
inductive NAll (h : Heap) : List NestedKey → List Value → Prop
  | nil : NAll h [] []
  | cons {k : NestedKey} {v : Value} {ks : List NestedKey} {vs : List Value} : NIs h k v → NAll h ks vs → NAll h (k :: ks) (v :: vs)
end
mutual
theorem NIs.nested {h : Heap} : ∀ {k : NestedKey} {v : Value}, NIs h k v → NestedIs h k v
  | _, _, .int i t => .int i t
  | _, _, .tup h1 h2 h3 h4 => .tup h1 h2 h3 (NAll.nested h4)
theorem NAll.nested {h : Heap} : ∀ {ks : List NestedKey} {vs : List Value}, NAll h ks vs → NestedAll h ks vs
  | _, _, .nil => .nil
  | _, _, .cons x xs => .cons (NIs.nested x) (NAll.nested xs)
end
mutual
theorem NIs.keep {h h' : Heap} (hk : ∀ b o, h.get? b = some o → o.cls = .type "tuple" → h'.get? b = some o) : ∀ {k : NestedKey} {v : Value}, NIs h k v → NIs h' k v
  | _, _, .int i t => .int i t
  | _, _, .tup h1 h2 h3 h4 => .tup (hk _ _ h1 h2) h2 h3 (NAll.keep hk h4)
theorem NAll.keep {h h' : Heap} (hk : ∀ b o, h.get? b = some o → o.cls = .type "tuple" → h'.get? b = some o) : ∀ {ks : List NestedKey} {vs : List Value}, NAll h ks vs → NAll h' ks vs
  | _, _, .nil => .nil
  | _, _, .cons x xs => .cons (NIs.keep hk x) (NAll.keep hk xs)
end
theorem NIs.inj {h : Heap} {x y : NestedKey} {v : Value} (a : NIs h x v) (b : NIs h y v) : x = y := NestedIs.inj _ _ _ a.nested b.nested
theorem NAll.len {h : Heap} : ∀ {ks : List NestedKey} {vs : List Value}, NAll h ks vs → ks.length = vs.length
  | _, _, .nil => rfl
  | _, _, .cons _ xs => by rw [List.length_cons, List.length_cons, xs.len]
section
open SeqAt
theorem nest_getD {h : Heap} : ∀ {ks : List NestedKey} {vs : List Value} {j : Nat}, NAll h ks vs → (hj : j < vs.length) → NIs h (ks.getD j .none) vs[j]
  | _, _, _, .nil, hj => absurd hj (Nat.not_lt_zero _)
  | _, _, 0, .cons x _, _ => x
  | _, _, j + 1, .cons _ xs, hj => by simpa using nest_getD (j := j) xs (by simpa using hj)
theorem depth_getD : ∀ {ks : List NestedKey} {j n : Nat}, NestedKey.depthAll ks ≤ n → (ks.getD j .none).depth ≤ n
  | [], j, n, _ => by simp [NestedKey.depth]
  | k :: ks, 0, n, h => by simp only [NestedKey.depthAll] at h; simp only [List.getD_cons_zero]; omega
  | k :: ks, j + 1, n, h => by simp only [NestedKey.depthAll] at h; rw [List.getD_cons_succ]; exact depth_getD (by omega)
theorem al_getD : ∀ {l m : List NestedKey} {j : Nat}, Al l m → j < l.length → j < m.length → ∃ s : Shp, s.fits (l.getD j .none) = true ∧ s.fits (m.getD j .none) = true
  | _, _, j, .nil, h, _ => absurd h (Nat.not_lt_zero _)
  | _, _, j, .nil', _, h => absurd h (Nat.not_lt_zero _)
  | _, _, 0, .cons h1 h2 _, _, _ => ⟨_, h1, h2⟩
  | _, _, j + 1, .cons _ _ t, h, h' => by simpa using al_getD (j := j) t (by simpa using h) (by simpa using h')
theorem in1_units {A : Around} : A.in1.units = A.units + 1 := rfl
/-- x < y of keys of one shape -/
theorem rc_lt : ∀ (n : Nat) {A : Around} {s : Shared} {sh : Shp} {x y : NestedKey} {a b : Value}, x.depth ≤ n → y.depth ≤ n → sh.fits x = true → sh.fits y = true → NIs s.heap x a → NIs s.heap y b → A.units + n < cLine → Ob.RcOp .Lt A s a b (lx (enc x) (enc y)) := by
  intro n
  induction n with
  | zero =>
    intro A s sh x y a b d1 d2 f1 f2 i1 i2 hu
    rcases fits_cases f1 f2 with ⟨i, j, rfl, rfl⟩ | ⟨l, m, rfl, rfl, al⟩
    · cases i1
      cases i2
      have e : lx (enc (.num i)) (enc (.num j)) = decide (i < j) := by
        by_cases hij : i = j
        · subst hij
          simp only [enc]
          rw [show lx [i] [i] = _ from lex_irrefl (O := iOrd) [i]]
          simp
        · simp only [enc]
          rw [show lx [i] [j] = _ from lex_diff (O := iOrd) hij]
      rw [e]
      exact Ob.RcOp.lt_int _ _ _ _
    · simp [NestedKey.depth] at d1
  | succ n ih =>
    intro A s sh x y a b d1 d2 f1 f2 i1 i2 hu
    rcases fits_cases f1 f2 with ⟨i, j, rfl, rfl⟩ | ⟨l, m, rfl, rfl, al⟩
    · exact ih (by simp [NestedKey.depth]) (by simp [NestedKey.depth]) f1 f2 i1 i2 (by omega)
    · simp only [NestedKey.depth] at d1 d2
      cases i1 with
      | tup g1 c1 e1 n1 =>
        cases i2 with
        | tup g2 c2 e2 n2 =>
          rename_i va na b' o' vb nb
          have hl1 : l.length = va.size := n1.len.trans (Array.length_toList ..)
          have hl2 : m.length = vb.size := n2.len.trans (Array.length_toList ..)
          have key := Ob.RcOp.tuples_lt (A := A) (s := s) (e := fun j => NestedKey.beq (l.getD j .none) (m.getD j .none)) (r := fun j => lx (enc (l.getD j .none)) (enc (m.getD j .none))) (l := _) (b := _) (items := va) (items2 := vb) ⟨_, g1, c1, _, e1⟩ ⟨_, g2, c2, _, e2⟩ (by omega) (fun j h1 h2 => ?_) (fun j h1 h2 _ => ?_)
          · rw [← hl1, ← hl2, lx_lexAt l m al] at key
            simp only [enc]
            exact key
          · have x1 := nest_getD n1 (j := j) (by simpa using h1)
            have x2 := nest_getD n2 (j := j) (by simpa using h2)
            have q1 := depth_getD (ks := l) (j := j) (n := n) (by omega)
            exact eqAt_key _ _ _ _ _ _ (by simpa using x1.nested) (by simpa using x2.nested) (by rw [in1_units]; omega)
          · have x1 := nest_getD n1 (j := j) (by simpa using h1)
            have x2 := nest_getD n2 (j := j) (by simpa using h2)
            have q1 := depth_getD (ks := l) (j := j) (n := n) (by omega)
            have q2 := depth_getD (ks := m) (j := j) (n := n) (by omega)
            obtain ⟨sh', f1', f2'⟩ := al_getD (j := j) al (by omega) (by omega)
            exact ih q1 q2 f1' f2' (by simpa using x1) (by simpa using x2) (by rw [in1_units]; omega)
section
variable {prog : Program} {w : World} {A : Around} {E : Value → Shared → Prop} {s : Shared}
open PySem.W in
theorem kat_keys {b : Bool} {Q : Bool → Shared → Prop} {n : Nat} (hu : A.units + n < cLine) : ∀ (l m : List NestedKey) (ps qs : List Value) (i : Nat), Al l m → NAll s.heap l ps → NAll s.heap m qs → NestedKey.depthAll l ≤ n → NestedKey.depthAll m ≤ n →
    (b = true → i = 0 → ∀ k j l' m', l = k :: l' → m = j :: m' → (∃ x, k = .num x) ∧ ∃ y, j = .num y) → Q (lx (encL l) (encL m)) s → KatLex prog w A b (decide (ps.length < qs.length)) Q (ps.zip qs) i s
  | [], [], _, _, i, _, .nil, .nil, _, _, _, h => kat_nil (by
      have e : lx (encL []) (encL []) = false := lex_irrefl (O := iOrd) _
      rw [e] at h
      simpa using h)
  | [], j :: m, _, _, i, _, .nil, .cons _ _, _, _, _, h => kat_nil (by
      have e : lx (encL []) (encL (j :: m)) = true := by
        simp only [encL]
        rw [show lx [0] (1 :: _) = _ from lex_diff (O := iOrd) (by decide)]
        rfl
      rw [e] at h
      simpa using h)
  | k :: l, [], _, _, i, _, .cons _ _, .nil, _, _, _, h => kat_nil (by
      have e : lx (encL (k :: l)) (encL []) = false := by
        simp only [encL]
        rw [show lx (1 :: _) [0] = _ from lex_diff (O := iOrd) (by decide)]
        rfl
      rw [e] at h
      simpa using h)
  | k :: l, j :: m, p :: ps, q :: qs, i, al, .cons x1 y1, .cons x2 y2, d1, d2, hb, h => by
    cases al with
    | cons f1 f2 al =>
      simp only [NestedKey.depthAll] at d1 d2
      have es : decide ((p :: ps).length < (q :: qs).length) = decide (ps.length < qs.length) := by simp
      rw [es]
      simp only [encL] at h
      rw [show lx (1 :: (enc k ++ encL l)) (1 :: _) = _ from lex_self (O := iOrd) 1 _ _] at h
      show KatLex prog w A b _ Q ((p, q) :: ps.zip qs) i s
      refine kat_cons (eqAt_key _ _ A s _ _ x1.nested x2.nested (by omega) prog w _ _ ?_)
      refine kat_go (fun e => ?_) (fun e => ?_)
      · have hkj := NestedKey.eq_of_beq _ _ e
        subst hkj
        rw [show lexLt iOrd (enc k ++ encL l) (enc k ++ encL m) = _ from lx_app (enc k) _ _] at h
        exact kat_yes (kat_keys hu l m ps qs (i + 1) al y1 y2 (by omega) (by omega) (fun _ z => absurd z (Nat.succ_ne_zero _)) h)
      · have hne : k ≠ j := fun z => by
          rw [z, NestedKey.beq_self] at e
          cases e
        rw [show lexLt iOrd (enc k ++ encL l) (enc j ++ encL m) = _ from lx_enc k j f1 f2 hne] at h
        refine kat_no ?_
        cases hbi : (b && i == 0) with
        | true =>
          rw [Bool.and_eq_true] at hbi
          obtain ⟨⟨x, rfl⟩, y, rfl⟩ := hb hbi.1 (by simpa using hbi.2) k j l m rfl rfl
          cases x1
          cases x2
          have ex : x ≠ y := fun z => hne (by rw [z])
          simp only [enc] at h
          rw [show lx [x] [y] = _ from lex_diff (O := iOrd) ex] at h
          exact oneLt_int h
        | false =>
          have hr := rc_lt n (A := A) (s := s) (by omega) (by omega) f1 f2 x1 x2 hu
          exact kat_one _ _ (hr prog w _ _ h)
/-- all items are tuples of one shape that begin with a number, or all with a tuple -/
structure KeyIn (h : Heap) (sh : Shp) (num : Bool) (k : NestedKey) (v : Value) : Prop where
  is : NIs h k v
  fit : sh.fits k = true
  dep : k.depth ≤ 9
  first : ∃ x l, k = .tup (x :: l) ∧ ((num = true ∧ ∃ i, x = .num i) ∨ (num = false ∧ ∃ t, x = .tup t))
theorem KeyIn.keep {h h' : Heap} {sh : Shp} {num : Bool} {k : NestedKey} {v : Value} (x : KeyIn h sh num k v) (hk : ∀ b o, h.get? b = some o → o.cls = .type "tuple" → h'.get? b = some o) : KeyIn h' sh num k v := ⟨x.is.keep hk, x.fit, x.dep, x.first⟩
end
end
end Z

/-! Z: sorted(..) of ints and of pairs of ints. -/
namespace Z
open PySem PySem.Spec PyProof.Rows L2
def isort (ns : List Int) : List Int := ns.mergeSort fun a b => decide (a ≤ b)
theorem isort_perm {ns : List Int} : (isort ns).Perm ns := List.mergeSort_perm ..
theorem isort_sorted {ns : List Int} : (isort ns).Pairwise (· ≤ ·) := by
  have h := List.pairwise_mergeSort (le := fun a b : Int => decide (a ≤ b)) (fun a b c h1 h2 => by simp at *; omega) (fun a b => by simp; omega) ns
  exact h.imp fun h => by simpa using h
theorem isort_uniq {ns ms : List Int} (hp : ms.Perm ns) (hs : ms.Pairwise (· ≤ ·)) : ms = isort ns :=
  List.Perm.eq_of_pairwise (le := (· ≤ ·)) (fun a b _ _ h1 h2 => Int.le_antisymm h1 h2) hs isort_sorted (hp.trans isort_perm.symm)
/-! ### tuples of numbers and of such tuples -/
mutual
def dn : NestedKey → D
  | .num i => .int i
  | .tup l => .tup (dnL l)
  | _ => .non
def dnL : List NestedKey → List D
  | [] => []
  | k :: r => dn k :: dnL r
end
/-- numbers and tuples, n deep -/
def D.kn : Nat → D → Bool
  | _, .int _ => true
  | n + 1, .tup l => l.all (D.kn n)
  | _, _ => false
mutual
theorem dn_nk : ∀ {n : Nat} {d : D}, d.kn n = true → dn d.nk = d
  | _, .int i, _ => by simp [D.nk, dn]
  | n + 1, .tup l, h => by
    simp only [D.kn, List.all_eq_true] at h
    simp only [D.nk, dn]
    rw [dnL_nk h]
  | 0, .tup _, h => by simp [D.kn] at h
  | 0, .non, h => by simp [D.kn] at h
  | _ + 1, .non, h => by simp [D.kn] at h
  | 0, .bl _, h => by simp [D.kn] at h
  | _ + 1, .bl _, h => by simp [D.kn] at h
  | 0, .str _, h => by simp [D.kn] at h
  | _ + 1, .str _, h => by simp [D.kn] at h
  | 0, .lst _, h => by simp [D.kn] at h
  | _ + 1, .lst _, h => by simp [D.kn] at h
  | 0, .scr _, h => by simp [D.kn] at h
  | _ + 1, .scr _, h => by simp [D.kn] at h
  | 0, .dct _ _, h => by simp [D.kn] at h
  | _ + 1, .dct _ _, h => by simp [D.kn] at h
theorem dnL_nk : ∀ {n : Nat} {l : List D}, (∀ d ∈ l, d.kn n = true) → dnL (D.nkL l) = l
  | _, [], _ => by simp [D.nkL, dnL]
  | n, d :: r, h => by
    simp only [D.nkL, dnL]
    rw [dn_nk (h d (List.mem_cons_self ..)), dnL_nk fun x hx => h x (List.mem_cons_of_mem _ hx)]
end
/-- the value v is the key d of numbers alone -/
def NumV (X : Cx) (H : Hp) (d : D) (v : V) : Prop := ∀ (pins : List (Addr × Obj)) (σ : L2.St) (s : Shared) (u : Value), L2.Inv X pins σ H s → RelV v u → NIs s.heap d.nk u
section
variable {X : Cx} {H : Hp} {w : OM}
mutual
theorem Fz.numv : ∀ {n : Nat} {d : D} {v : V}, Fz X.K H w d v → d.kn n = true → NumV X H d v
  | _, _, _, .int i, _ => fun pins σ s u I r => by obtain ⟨t, rfl⟩ := (show ∃ t, u = Value.int i t from r); simp only [D.nk]; exact .int i t
  | n + 1, _, _, .tup h t, e => fun pins σ s u I r => by
    simp only [D.kn, List.all_eq_true] at e
    cases (show u = Value.ref _ from r)
    obtain ⟨its, r', ⟨ob, g, hc, m, hd⟩, _⟩ := I.tuple h.sq
    simp only [D.nk]
    exact .tup g hc hd (by simpa using FzL.numv t e pins σ s its I r')
  | 0, _, _, .tup h t, e => by simp [D.kn] at e
  | 0, _, _, .non, e => by simp [D.kn] at e
  | _ + 1, _, _, .non, e => by simp [D.kn] at e
  | 0, _, _, .bl _, e => by simp [D.kn] at e
  | _ + 1, _, _, .bl _, e => by simp [D.kn] at e
  | 0, _, _, .str _, e => by simp [D.kn] at e
  | _ + 1, _, _, .str _, e => by simp [D.kn] at e
  | 0, _, _, .lst .., e => by simp [D.kn] at e
  | _ + 1, _, _, .lst .., e => by simp [D.kn] at e
  | 0, _, _, .scr .., e => by simp [D.kn] at e
  | _ + 1, _, _, .scr .., e => by simp [D.kn] at e
  | 0, _, _, .dct .., e => by simp [D.kn] at e
  | _ + 1, _, _, .dct .., e => by simp [D.kn] at e
  | 0, _, _, .dcu .., e => by simp [D.kn] at e
  | _ + 1, _, _, .dcu .., e => by simp [D.kn] at e
theorem FzL.numv : ∀ {n : Nat} {ds : List D} {vs : List V}, FzL X.K H w ds vs → (∀ d ∈ ds, d.kn n = true) → ∀ (pins : List (Addr × Obj)) (σ : L2.St) (s : Shared) (us : List Value), L2.Inv X pins σ H s → Vals vs us → NAll s.heap (D.nkL ds) us
  | _, _, _, .nil, _ => fun pins σ s us I r => by cases r; simp only [D.nkL]; exact .nil
  | n, _, _, .cons h t, e => fun pins σ s us I r => by
    cases r with
    | cons r1 r2 =>
      simp only [D.nkL]
      exact .cons (Fz.numv h (e _ (List.mem_cons_self ..)) pins σ s _ I r1) (FzL.numv t (fun d hd => e d (List.mem_cons_of_mem _ hd)) pins σ s _ I r2)
end
end
mutual
def Shp.of : D → Shp
  | .tup l => if l.all (fun d => match d with | .int _ => true | _ => false) then .seq .num else .fix (Shp.ofL l)
  | _ => .num
def Shp.ofL : List D → List Shp
  | [] => []
  | d :: r => Shp.of d :: Shp.ofL r
end
open Classical in
/-- the key that a value of the heap is -/
noncomputable def keyAt (h : Heap) (v : Value) : NestedKey := if x : ∃ k, NIs h k v then x.choose else .none
structure KeyOk (sh : Shp) (num : Bool) (k : NestedKey) : Prop where
  fit : sh.fits k = true
  dep : k.depth ≤ 9
  first : ∃ x l, k = .tup (x :: l) ∧ ((num = true ∧ ∃ i, x = .num i) ∨ (num = false ∧ ∃ t, x = .tup t))
mutual
theorem enc_inj : ∀ (x y : NestedKey) {s : Shp} {r t : List Int}, s.fits x = true → s.fits y = true → enc x ++ r = enc y ++ t → x = y ∧ r = t
  | .num i, y, s, r, t, h1, h2, e => by
    rcases fits_cases h1 h2 with ⟨a, b, e1, e2⟩ | ⟨l, m, e1, _⟩
    · cases e1
      subst e2
      simp only [enc, List.singleton_append, List.cons.injEq] at e
      exact ⟨by rw [e.1], e.2⟩
    · cases e1
  | .tup l, y, s, r, t, h1, h2, e => by
    rcases fits_cases h1 h2 with ⟨a, b, e1, _⟩ | ⟨l', m, e1, e2, al⟩
    · cases e1
    · cases e1
      subst e2
      simp only [enc] at e
      obtain ⟨h, h'⟩ := encL_inj l m al e
      exact ⟨by rw [h], h'⟩
  | .none, y, s, r, t, h1, h2, _ => by
    rcases fits_cases h1 h2 with ⟨a, b, e1, _⟩ | ⟨l', m, e1, _⟩ <;> cases e1
  | .text _, y, s, r, t, h1, h2, _ => by
    rcases fits_cases h1 h2 with ⟨a, b, e1, _⟩ | ⟨l', m, e1, _⟩ <;> cases e1
theorem encL_inj : ∀ (l m : List NestedKey) {r t : List Int}, Al l m → encL l ++ r = encL m ++ t → l = m ∧ r = t
  | [], [], _, _, _, e => by simp [encL] at e; exact ⟨rfl, e⟩
  | [], j :: m, r, t, _, e => by simp [encL] at e
  | k :: l, [], r, t, _, e => by simp [encL] at e
  | k :: l, j :: m, r, t, al, e => by
    cases al with
    | cons h1 h2 al =>
      simp only [encL, List.cons_append, List.append_assoc, List.cons.injEq, true_and] at e
      obtain ⟨rfl, e2⟩ := enc_inj k j h1 h2 e
      obtain ⟨rfl, e3⟩ := encL_inj l m al e2
      exact ⟨rfl, e3⟩
end
section
variable {X : Cx}
end
end Z

/-! Z: loops and comprehensions by a state, drawing by functions. -/
namespace Z
open PySem PySem.Spec PyProof.Rows L2
@[simp] theorem aVar_s {i : Nat} {ρ : Env} : aVar i ρ = (match ρ.get i with | some _ => .ok (.s i, ρ) | none => .bad) := rfl
@[simp] theorem runDef_s {size : Nat} {m : MS} {as : List Cell} : runDef size m as = (do
  let (fl, ρ) ← m (locks 0 as) (as.map some ++ List.replicate (size - as.length) none)
  let fs ← fins ρ 0 as
  match fl with
  | .ret c => R.ok (c, fs)
  | .next => R.ok (Cell.fz .non, fs)
  | _ => R.bad) := rfl
@[simp] theorem chk_none {l : List D} {ρ : Env} : chkOk ⟨l, none⟩ ρ = true := rfl
@[simp] theorem chk_some {l : List D} {i : Nat} {ρ : Env} : chkOk ⟨l, some i⟩ ρ = (match ρ.get i with | some c => decide (c.k ≤ 1) && decide (c.d = .lst l) | none => false) := rfl
@[simp] theorem wipe_nil {ρ : Env} : wipeE ρ [] = ρ := rfl
@[simp] theorem wipe_cons {ρ : Env} {i : Nat} {r : List Nat} : wipeE ρ (i :: r) = (wipeE ρ r).set i none := rfl
@[simp] theorem rest_nil {ρ ρ0 : Env} : restore ρ ρ0 [] = ρ := rfl
@[simp] theorem rest_cons {ρ ρ0 : Env} {i : Nat} {r : List Nat} : restore ρ ρ0 (i :: r) = (restore ρ ρ0 r).set i (ρ0.get i) := rfl
@[simp] theorem own_nil {ρ : Env} : ownOk ρ [] = true := rfl
@[simp] theorem own_cons {ρ : Env} {i : Nat} {r : List Nat} : ownOk ρ (i :: r) = ((match ρ.get i with | some c => decide (c.k = 0) | none => true) && ownOk ρ r) := rfl
@[simp] theorem items_tup {l : List D} : itemsOf (.tup l) = some l := rfl
@[simp] theorem items_lst {l : List D} : itemsOf (.lst l) = some l := rfl
@[simp] theorem items_scr {l : List D} : itemsOf (.scr l) = some l := rfl

/-! ### one turn of a loop -/
def fin1 (it : ItD) (x : Fl × Env) : R (Fl × Env) := match x.1 with
  | .ret c => .ok (.ret c, x.2)
  | .brk => .ok (.brk, x.2)
  | _ => if chkOk it x.2 then .ok (.next, x.2) else .bad
@[simp] theorem fin1_ret {it : ItD} {c : Cell} {ρ : Env} : fin1 it (.ret c, ρ) = .ok (.ret c, ρ) := rfl
@[simp] theorem fin1_brk {it : ItD} {ρ : Env} : fin1 it (.brk, ρ) = .ok (.brk, ρ) := rfl
@[simp] theorem fin1_next {it : ItD} {ρ : Env} : fin1 it (.next, ρ) = if chkOk it ρ then .ok (.next, ρ) else .bad := rfl
@[simp] theorem fin1_cont {it : ItD} {ρ : Env} : fin1 it (.cont, ρ) = if chkOk it ρ then .ok (.next, ρ) else .bad := rfl
def step1 (it : ItD) (g : MG) (body : MS) (L : List Nat) (d : D) (ρ : Env) : R (Fl × Env) := do
  let ρ1 ← g d L ρ
  let x ← body L ρ1
  fin1 it x
section
variable {it : ItD} {g : MG} {body : MS} {L : List Nat} {d : D} {r : List D} {ρ ρ' : Env} {α σ : Type} {toD : α → D} {enc : σ → Env}
theorem loopF_cons : loopF it g body L (d :: r) ρ = (do
    let ρ1 ← g d L ρ
    let (fl, ρ2) ← body L ρ1
    match fl with
    | .ret c => R.ok (.ret c, ρ2)
    | .brk => R.ok (.next, ρ2)
    | _ => if chkOk it ρ2 then loopF it g body L r ρ2 else R.bad) := rfl
theorem loop_next (h : step1 it g body L d ρ = .ok (.next, ρ')) : loopF it g body L (d :: r) ρ = loopF it g body L r ρ' := by
  rw [loopF_cons]
  unfold step1 at h
  obtain ⟨ρ1, e1, h⟩ := R.of_bind h
  obtain ⟨⟨fl, ρ2⟩, e2, h⟩ := R.of_bind h
  rw [e1]
  simp only [R.ok_bind]
  rw [e2]
  simp only [R.ok_bind]
  cases fl with
  | ret c => simp at h
  | brk => simp at h
  | next =>
    dsimp only
    by_cases hc : chkOk it ρ2 = true
    · simp [hc] at h; subst h; rw [if_pos hc]
    · simp [hc] at h
  | cont =>
    dsimp only
    by_cases hc : chkOk it ρ2 = true
    · simp [hc] at h; subst h; rw [if_pos hc]
    · simp [hc] at h
theorem loop_ret {c : Cell} (h : step1 it g body L d ρ = .ok (.ret c, ρ')) : loopF it g body L (d :: r) ρ = .ok (.ret c, ρ') := by
  rw [loopF_cons]
  unfold step1 at h
  obtain ⟨ρ1, e1, h⟩ := R.of_bind h
  obtain ⟨⟨fl, ρ2⟩, e2, h⟩ := R.of_bind h
  rw [e1]
  simp only [R.ok_bind]
  rw [e2]
  simp only [R.ok_bind]
  cases fl with
  | ret c' => simp at h; obtain ⟨rfl, rfl⟩ := h; rfl
  | brk => simp at h
  | next => by_cases hc : chkOk it ρ2 = true <;> simp [hc] at h
  | cont => by_cases hc : chkOk it ρ2 = true <;> simp [hc] at h
theorem loop_brk (h : step1 it g body L d ρ = .ok (.brk, ρ')) : loopF it g body L (d :: r) ρ = .ok (.next, ρ') := by
  rw [loopF_cons]
  unfold step1 at h
  obtain ⟨ρ1, e1, h⟩ := R.of_bind h
  obtain ⟨⟨fl, ρ2⟩, e2, h⟩ := R.of_bind h
  rw [e1]
  simp only [R.ok_bind]
  rw [e2]
  simp only [R.ok_bind]
  cases fl with
  | ret c' => simp at h
  | brk => simp at h; subst h; rfl
  | next => by_cases hc : chkOk it ρ2 = true <;> simp [hc] at h
  | cont => by_cases hc : chkOk it ρ2 = true <;> simp [hc] at h
end

/-! ### one turn of a comprehension -/
def comp1 (it : ItD) (g : MG) (tt : MT) (me : AE) (vs : List Nat) (d : D) (ρ : Env) : R (Option D × Env) := do
  let ρa ← g d [] ρ
  let (b, ρb) ← tt ρa
  if b then do
    let (s, ρc) ← me ρb
    let (c, ρd) ← esc s ρc
    if chkOk it (wipeE ρd vs) then R.ok (some c.d, wipeE ρd vs) else R.bad
  else if chkOk it (wipeE ρb vs) then R.ok (none, wipeE ρb vs) else R.bad
section
variable {it : ItD} {g : MG} {tt : MT} {me : AE} {vs : List Nat} {d : D} {r : List D} {ρ ρ' : Env} {α σ : Type} {toD : α → D} {enc : σ → Env}
theorem loopC_cons : loopC it g tt me vs (d :: r) ρ = (do
    let ρa ← g d [] ρ
    let (b, ρb) ← tt ρa
    if b then do
      let (s, ρc) ← me ρb
      let (c, ρd) ← esc s ρc
      if chkOk it (wipeE ρd vs) then do
        let (acc, ρe) ← loopC it g tt me vs r (wipeE ρd vs)
        R.ok (c.d :: acc, ρe)
      else R.bad
    else if chkOk it (wipeE ρb vs) then loopC it g tt me vs r (wipeE ρb vs) else R.bad) := rfl
theorem comp_next {o : Option D} (h : comp1 it g tt me vs d ρ = .ok (o, ρ')) : loopC it g tt me vs (d :: r) ρ = (do let (acc, ρe) ← loopC it g tt me vs r ρ'; R.ok (o.toList ++ acc, ρe)) := by
  rw [loopC_cons]
  unfold comp1 at h
  obtain ⟨ρa, e1, h⟩ := R.of_bind h
  obtain ⟨⟨b, ρb⟩, e2, h⟩ := R.of_bind h
  rw [e1]
  simp only [R.ok_bind]
  rw [e2]
  simp only [R.ok_bind]
  cases b with
  | true =>
    simp only [if_true] at h ⊢
    obtain ⟨⟨s, ρc⟩, e3, h⟩ := R.of_bind h
    obtain ⟨⟨c, ρd⟩, e4, h⟩ := R.of_bind h
    rw [e3]
    simp only [R.ok_bind]
    rw [e4]
    simp only [R.ok_bind]
    by_cases hc : chkOk it (wipeE ρd vs) = true
    · simp only [hc, if_true] at h ⊢
      cases h
      rfl
    · simp [hc] at h
  | false =>
    simp only [Bool.false_eq_true, if_false] at h ⊢
    by_cases hc : chkOk it (wipeE ρb vs) = true
    · simp only [hc, if_true] at h ⊢
      cases h
      cases loopC it g tt me vs r (wipeE ρb vs) <;> rfl
    · simp [hc] at h
theorem comp_fm (toD : α → D) (f : α → Option D) {ds : List α} (h : ∀ a ∈ ds, comp1 it g tt me vs (toD a) ρ = .ok (f a, ρ)) : loopC it g tt me vs (ds.map toD) ρ = .ok (ds.filterMap f, ρ) := by
  induction ds with
  | nil => rfl
  | cons a r ih =>
    rw [List.map_cons, comp_next (h a (List.mem_cons_self ..)), ih fun x hx => h x (List.mem_cons_of_mem _ hx)]
    cases e : f a with
    | none => rw [List.filterMap_cons_none e]; rfl
    | some y => rw [List.filterMap_cons_some e]; rfl
theorem comp_m (toD : α → D) (f : α → D) {ds : List α} (h : ∀ a ∈ ds, comp1 it g tt me vs (toD a) ρ = .ok (some (f a), ρ)) : loopC it g tt me vs (ds.map toD) ρ = .ok (ds.map f, ρ) := by
  rw [comp_fm toD (fun a => some (f a)) h]
  congr 2
  clear h
  induction ds with
  | nil => rfl
  | cons a r ih => simp
theorem comp_f (toD : α → D) (p : α → Bool) (f : α → D) {ds : List α} (h : ∀ a ∈ ds, comp1 it g tt me vs (toD a) ρ = .ok (if p a then some (f a) else none, ρ)) : loopC it g tt me vs (ds.map toD) ρ = .ok ((ds.filter p).map f, ρ) := by
  rw [comp_fm toD _ h]
  congr 2
  clear h
  induction ds with
  | nil => rfl
  | cons a r ih =>
    cases e : p a with
    | true => rw [List.filterMap_cons_some (by rw [e]; rfl), List.filter_cons_of_pos e, List.map_cons, ih]
    | false => rw [List.filterMap_cons_none (by rw [e]; rfl), List.filter_cons_of_neg (by rw [e]; simp), ih]
end

/-! ### draws as functions -/
def DSl (l : List D) : Prop := DSt ⟨.lst l, 1⟩
def dN (l : List D) (m : Int) : Nat := match c_draw [⟨.lst l, 1⟩, ⟨.int m, 0⟩] with
  | .ok (⟨.int n, _⟩, _) => n.toNat
  | _ => 0
def dL (l : List D) (m : Int) : List D := if 0 < m ∧ m < 4611686018427387904 then match c_draw [⟨.lst l, 1⟩, ⟨.int m, 0⟩] with
  | .ok (_, ⟨.lst l', _⟩ :: _) => l'
  | _ => l
  else l
theorem draw_all {l : List D} {m : Int} (h : DSl l) (h0 : 0 < m) (h1 : m < 4611686018427387904) : c_draw [⟨.lst l, 1⟩, ⟨.int m, 0⟩] = .ok (⟨.int (dN l m : Nat), 0⟩, [⟨.lst (dL l m), 1⟩, ⟨.int m, 0⟩]) ∧ DSl (dL l m) ∧ (dN l m : Int) < m := by
  obtain ⟨n, c', e, hc, hn0, hn1⟩ := draw_ok h h0 h1
  obtain ⟨l', rfl⟩ := hc.k
  have e1 : dN l m = n.toNat := by unfold dN; rw [e]
  have e2 : dL l m = l' := by unfold dL; rw [if_pos ⟨h0, h1⟩, e]
  rw [e1, e2, e]
  refine ⟨?_, hc, by omega⟩
  rw [Int.toNat_of_nonneg hn0]
theorem draw_s {l : List D} {m : Int} (h : DSl l) (h0 : 0 < m) (h1 : m < 4611686018427387904) : c_draw [⟨.lst l, 1⟩, ⟨.int m, 0⟩] = .ok (⟨.int (dN l m : Nat), 0⟩, [⟨.lst (dL l m), 1⟩, ⟨.int m, 0⟩]) := (draw_all h h0 h1).1
theorem DSl.d {l : List D} {m : Int} (h : DSl l) : DSl (dL l m) := by
  by_cases h2 : 0 < m ∧ m < 4611686018427387904
  · exact (draw_all h h2.1 h2.2).2.1
  · unfold dL; rw [if_neg h2]; exact h
theorem dN_lt {l : List D} {m : Int} (h : DSl l) (h0 : 0 < m) (h1 : m < 4611686018427387904) : (dN l m : Int) < m := (draw_all h h0 h1).2.2
theorem dN_ltN {l : List D} {m : Nat} (h : DSl l) (h0 : 0 < m) (h1 : m < 4611686018427387904) : dN l (m : Int) < m := Int.ofNat_lt.mp (dN_lt h (by omega) (by omega))
theorem pick_s {l : List D} {c : D} {row : List D} {k : Nat} (hc : (c = .lst row ∧ k ≤ 1) ∨ (c = .tup row ∧ k = 0)) (h : DSl l) (h0 : 0 < row.length) (h1 : row.length < 4611686018427387904) : c_pick [⟨.lst l, 1⟩, ⟨c, k⟩] = .ok (⟨row.getD (dN l row.length) .non, 0⟩, [⟨.lst (dL l row.length), 1⟩, ⟨c, k⟩]) := by
  have hd := draw_s (m := (row.length : Int)) h (by omega) (by omega)
  have hl := dN_ltN (m := row.length) h h0 h1
  have hx := atI_nat hl
  have hg : row.getD (dN l row.length) .non = row[dN l row.length] := by simp [List.getElem?_eq_getElem hl]
  rw [hg]
  rcases hc with ⟨rfl, hk⟩ | ⟨rfl, rfl⟩
  · obtain rfl | rfl : k = 0 ∨ k = 1 := by omega
    all_goals simp -implicitDefEqProofs [c_pick, m_pick, hd, p_ixL, hx]
  · simp -implicitDefEqProofs [c_pick, m_pick, hd, p_ixT, hx]
theorem pickL_s {l : List D} {row : List D} {k : Nat} (hk : k ≤ 1) (h : DSl l) (h0 : 0 < row.length) (h1 : row.length < 4611686018427387904) : c_pick [⟨.lst l, 1⟩, ⟨.lst row, k⟩] = .ok (⟨row.getD (dN l row.length) .non, 0⟩, [⟨.lst (dL l row.length), 1⟩, ⟨.lst row, k⟩]) := pick_s (.inl ⟨rfl, hk⟩) h h0 h1
theorem begin_s {ns : List Int} (hl : ns.length ≤ 63) : ∃ l, c_begin [⟨.scr (ns.map D.int), 0⟩] = .ok (⟨.lst l, 1⟩, [⟨.scr (ns.map D.int), 0⟩]) ∧ DSl l :=
  ⟨_, begin_ok hl, ns, 0, 0, 7, rfl, by decide, by decide, by decide⟩
theorem shuffled_s {l row : List D} {k : Nat} (h : DSl l) (hk : k ≤ 1) (h1 : row.length ≤ 16777216) : ∃ (row' l' : List D), c_shuffled [⟨.lst l, 1⟩, ⟨.lst row, k⟩] = .ok (⟨.lst row', 1⟩, [⟨.lst l', 1⟩, ⟨.lst row, k⟩]) ∧ DSl l' ∧ row'.Perm row := by
  obtain ⟨row', c', e, hc, hp⟩ := shuffled_ok h hk h1
  obtain ⟨l', rfl⟩ := hc.k
  exact ⟨row', l', e, hc, hp⟩

/-! ### small ones that each law wants -/
@[simp] theorem f_max2 {i j : Int} {k k' : Nat} : fMax [⟨.int i, k⟩, ⟨.int j, k'⟩] = .ok ⟨.int (if j > i then j else i), 0⟩ := rfl
@[simp] theorem f_min2 {i j : Int} {k k' : Nat} : fMin [⟨.int i, k⟩, ⟨.int j, k'⟩] = .ok ⟨.int (if j < i then j else i), 0⟩ := rfl
@[simp] theorem f_neI {i j : Int} {k k' : Nat} : fNe [⟨.int i, k⟩, ⟨.int j, k'⟩] = .ok ⟨.bl (!decide (i = j)), 0⟩ := by
  unfold fNe
  have e : D.eqv (.int i) (.int j) = decide (i = j) := by
    show (i == j) = _
    by_cases q : i = j <;> simp [q]
  simp only [D.okd, Bool.and_true, if_true, e]
  rfl
@[simp] theorem nL_len {ps : List Nat} : (nL ps).length = ps.length := by unfold nL; simp
@[simp] theorem iL_len {ps : List Int} : (iL ps).length = ps.length := by unfold iL; simp
@[simp] theorem len_nD {ps : List Nat} {k : Nat} : fLen [⟨nD ps, k⟩] = .ok ⟨.int ps.length, 0⟩ := by show R.ok (Cell.fz (.int (nL ps).length)) = _; rw [nL_len]; rfl
@[simp] theorem len_iD {ps : List Int} {k : Nat} : fLen [⟨iD ps, k⟩] = .ok ⟨.int ps.length, 0⟩ := by show R.ok (Cell.fz (.int (iL ps).length)) = _; rw [iL_len]; rfl
@[simp] theorem items_iD {l : List Int} : itemsOf (iD l) = some (iL l) := rfl
@[simp] theorem items_nD {l : List Nat} : itemsOf (nD l) = some (nL l) := rfl
theorem f_addT {l m : List D} {k k' : Nat} (h : l.length ≤ 10000) (h' : m.length ≤ 10000) : fAdd [⟨.tup l, k⟩, ⟨.tup m, k'⟩] = .ok ⟨.tup (l ++ m), 0⟩ := by
  unfold fAdd
  simp only
  rw [if_pos (by omega)]
  rfl
theorem cutD_to {l : List D} {k : Nat} (h : k ≤ l.length) : cutD l none (some (k : Int)) = l.take k := by
  unfold cutD
  rw [HT.sIx_none, HT.sIx_nat, Nat.min_eq_left h]
  simp
theorem cutD_from {l : List D} {k : Nat} (h : k ≤ l.length) : cutD l (some (k : Int)) none = l.drop k := by
  unfold cutD
  rw [HT.sIx_none, HT.sIx_nat, Nat.min_eq_left h, ← List.length_drop, List.take_length]
theorem rgD_nat' {n : Nat} : rgD 0 (n : Int) = (List.range n).map fun (i : Nat) => D.int (i : Int) := rgD_nat
end Z

/-! Z: range with a step, calls without arguments, two clauses of a comprehension. -/
namespace Z
open PySem PySem.Spec PyProof.Rows L2
section
variable {X : Cx} {tg : Expr}
/-! ### [e for a in A if s for b in B if t] -/
def loopC2 (it : ItD) (g : MG) (tt : MT) (mi1 : MI) (g1 : MG) (tt1 : MT) (me : AE) (vs vs1 : List Nat) : List D → Env → R (List D × Env)
  | [], ρ => .ok ([], ρ)
  | d :: r, ρ => do
    let ρa ← g d [] ρ
    let (b, ρb) ← tt ρa
    if b then do
      let (it1, ρc) ← mi1 ρb
      if chkOk it1 (wipeE ρc vs1) then do
        let (acc1, ρd) ← loopC it1 g1 tt1 me vs1 it1.items (wipeE ρc vs1)
        if chkOk it (wipeE ρd vs) then do
          let (acc, ρe) ← loopC2 it g tt mi1 g1 tt1 me vs vs1 r (wipeE ρd vs)
          R.ok (acc1 ++ acc, ρe)
        else R.bad
      else R.bad
    else if chkOk it (wipeE ρb vs) then loopC2 it g tt mi1 g1 tt1 me vs vs1 r (wipeE ρb vs) else R.bad
def mComp2 (mi : MI) (g : MG) (tt : MT) (mi1 : MI) (g1 : MG) (tt1 : MT) (me : AE) (vs vs1 : List Nat) : AE := fun ρ => do
  let (it, ρ1) ← mi ρ
  if ownOk ρ1 vs && chkOk it (wipeE ρ1 vs) then do
    let (acc, ρ2) ← loopC2 it g tt mi1 g1 tt1 me vs vs1 it.items (wipeE ρ1 vs)
    if acc.length ≤ 16777216 then R.ok (.v ⟨.lst acc, 1⟩, restore ρ2 ρ1 vs) else R.bad
  else R.bad
def rdI (K : PySem.W.Frag) (m : MI) : TI := fun σ H R => ∃ (n : Nat) (w : OM) (ρ : Env) (it : ItD) (ρ' : Env), Ok K H w σ ρ ∧ m ρ = .ok (it, ρ') ∧ ∀ J H' w', Ok K H' w' σ ρ' → Step n H w H' w' → chkOk it ρ' = true → ItOk K J 0 it σ H' w' → R J H'
theorem SI.rd {iter : Expr} {m : MI} (h : SI X tg iter m) : PI X tg iter (rdI X.K m) := by
  obtain ⟨t, p, g⟩ := h.ex
  exact ⟨fun pins s σ H Q I ⟨n, w, ρ, it, ρ', ok, hm, k⟩ => p.run pins s σ H Q I (g n σ H w ρ it ρ' Q ok hm k)⟩
end
end Z

/-! Z: repr. -/
namespace Z
open PySem PySem.Spec PyProof.Rows L2
section
variable {X : Cx}
end
/-! ### how long it may be -/
mutual
def D.wt : D → Nat
  | .non => 6
  | .bl _ => 7
  | .int _ => 66
  | .str x => 10 * x.length + 4
  | .tup l => D.wtL l + 4
  | .lst l => D.wtL l + 4
  | .scr l => D.wtL l + 4
  | .dct _ _ => 4
def D.wtL : List D → Nat
  | [] => 0
  | d :: r => d.wt + 2 + D.wtL r
end
mutual
def D.small : D → Bool
  | .non => true
  | .bl _ => true
  | .int i => decide (i.natAbs < 2 ^ 60)
  | .str x => x.cps.all (· < 0x110000) && (reprText x).cps.all (· < 0x110000)
  | .tup l => D.smallL l
  | .lst l => D.smallL l
  | .scr l => D.smallL l
  | .dct _ _ => false
def D.smallL : List D → Bool
  | [] => true
  | d :: r => d.small && D.smallL r
end
theorem textFrom_le : ∀ (ts : List Str) (k : Nat) (acc : Str), (textFrom k acc ts).length ≤ acc.length + piled ts
  | [], k, acc => by show acc.length ≤ _; omega
  | t :: r, k, acc => by
    have ih := textFrom_le r (k + 1) (acc ++ (if k > 0 then ", " else "" : String) ++ t)
    have e : (acc ++ ((if k > 0 then ", " else "" : String) : Str) ++ t).length ≤ acc.length + 2 + t.length := by
      rw [strLen_append, strLen_append]
      have : (((if k > 0 then ", " else "" : String) : Str)).length ≤ 2 := by split <;> decide +kernel
      omega
    show (textFrom (k + 1) _ r).length ≤ _
    rw [piled_cons]
    omega
theorem listText_le (ts : List Str) : (listText ts).length ≤ piled ts + 2 := by
  unfold listText
  have h := textFrom_le ts 0 "["
  rw [strLen_append]
  have e1 : ((("[" : String) : Str)).length = 1 := rfl
  have e2 : ((("]" : String) : Str)).length = 1 := rfl
  omega
mutual
theorem D.shown_le : ∀ d : D, d.small = true → d.py.shown.length ≤ d.wt ∧ d.py.showable = true
  | .non, _ => ⟨by decide +kernel, rfl⟩
  | .bl b, _ => ⟨by cases b <;> decide +kernel, rfl⟩
  | .int i, h => by
    have h : i.natAbs < 2 ^ 60 := of_decide_eq_true h
    have hl : i.natAbs.log2 < 60 := by
      by_cases h0 : i.natAbs = 0
      · rw [h0]; decide
      · exact (Nat.log2_lt h0).mpr h
    refine ⟨?_, ?_⟩
    · show (Str.ofString (toString i)).length ≤ 66
      have := int_text_length_le (a := i) (k := 60) (by decide) hl
      rw [PySem.ofString_length]
      omega
    · show decide _ = true
      rw [decide_eq_true_eq]
      omega
  | .str x, h => by
    refine ⟨?_, rfl⟩
    have h : (x.cps.all (· < 0x110000) && (reprText x).cps.all (· < 0x110000)) = true := h
    rw [Bool.and_eq_true] at h
    have hx : ∀ c ∈ x.cps.toList, c < 16 ^ 8 := fun c hc => by
      have h' := (Array.all_eq_true_iff_forall_mem.mp h.1) c (by simpa using hc)
      have : c < 0x110000 := by simpa using h'
      omega
    have := StrLaws.reprText_len x hx
    show (reprText x).length ≤ 10 * x.length + 4
    omega
  | .tup l, h => by
    obtain ⟨a, b⟩ := D.shown_leL l h
    refine ⟨?_, by show PyData.showableAll _ = true; exact b⟩
    show (tupleText (PyData.shownAll (D.pyL l))).length ≤ D.wtL l + 4
    have := fmt_text (PyData.shownAll (D.pyL l))
    omega
  | .lst l, h => by
    obtain ⟨a, b⟩ := D.shown_leL l h
    refine ⟨?_, by show PyData.showableAll _ = true; exact b⟩
    show (listText (PyData.shownAll (D.pyL l))).length ≤ D.wtL l + 4
    have := listText_le (PyData.shownAll (D.pyL l))
    omega
  | .scr l, h => by
    obtain ⟨a, b⟩ := D.shown_leL l h
    refine ⟨?_, by show PyData.showableAll _ = true; exact b⟩
    show (listText (PyData.shownAll (D.pyL l))).length ≤ D.wtL l + 4
    have := listText_le (PyData.shownAll (D.pyL l))
    omega
  | .dct _ _, h => by cases h
theorem D.shown_leL : ∀ l : List D, D.smallL l = true → piled (PyData.shownAll (D.pyL l)) ≤ D.wtL l ∧ PyData.showableAll (D.pyL l) = true
  | [], _ => ⟨Nat.le_refl _, rfl⟩
  | d :: r, h => by
    unfold D.smallL at h
    rw [Bool.and_eq_true] at h
    obtain ⟨a, b⟩ := D.shown_le d h.1
    obtain ⟨a2, b2⟩ := D.shown_leL r h.2
    refine ⟨?_, ?_⟩
    · show piled (d.py.shown :: PyData.shownAll (D.pyL r)) ≤ d.wt + 2 + D.wtL r
      rw [piled_cons]
      omega
    · show (d.py.showable && PyData.showableAll (D.pyL r)) = true
      rw [b, b2]; rfl
end
def okS (x : Str) : Bool := x.cps.all (· < 0x110000)
theorem okS_app {x y : Str} : okS (x ++ y) = (okS x && okS y) := by
  show ((x.cps ++ y.cps).all _) = _
  rw [Array.all_append]
  rfl
theorem char_lt (c : Char) : c.toNat < 0x110000 := by
  rcases c.valid with h | ⟨_, h⟩
  · exact Nat.lt_trans h (by decide)
  · exact h
theorem okS_of (s : String) : okS (Str.ofString s) = true := by
  unfold okS
  rw [Str.ofString_eq_toList, Array.all_eq_true_iff_forall_mem]
  intro c hc
  simp only [List.mem_toArray, List.mem_map] at hc
  obtain ⟨a, _, rfl⟩ := hc
  exact decide_eq_true (char_lt a)
theorem okS_join : ∀ ts : List Str, (∀ t ∈ ts, okS t = true) → okS (Str.join ", " ts) = true
  | [], _ => okS_of ""
  | [x], h => h x (List.mem_cons_self ..)
  | x :: y :: r, h => by
    have ih := okS_join (y :: r) fun t ht => h t (List.mem_cons_of_mem _ ht)
    show okS (x ++ ", " ++ Str.join ", " (y :: r)) = true
    rw [okS_app, okS_app, ih, h x (List.mem_cons_self ..), okS_of]
    rfl
theorem okS_from : ∀ (ts : List Str) (k : Nat) (acc : Str), okS acc = true → (∀ t ∈ ts, okS t = true) → okS (textFrom k acc ts) = true
  | [], _, _, h, _ => h
  | t :: r, k, acc, h, ht => okS_from r (k + 1) _ (by rw [okS_app, okS_app, h, okS_of, ht t (List.mem_cons_self ..)]; rfl) fun x hx => ht x (List.mem_cons_of_mem _ hx)
mutual
theorem D.shown_okS : ∀ d : D, d.small = true → okS d.py.shown = true
  | .non, _ => okS_of _
  | .bl b, _ => by cases b <;> exact okS_of _
  | .int i, h => okS_of _
  | .str x, h => by
    have h : (x.cps.all (· < 0x110000) && (reprText x).cps.all (· < 0x110000)) = true := h
    rw [Bool.and_eq_true] at h
    exact h.2
  | .tup l, h => by
    show okS (tupleText (PyData.shownAll (D.pyL l))) = true
    unfold tupleText
    rw [okS_app, okS_app, okS_of, okS_of, okS_join _ (D.shown_okSL l h)]
    rfl
  | .lst l, h => by
    show okS (listText (PyData.shownAll (D.pyL l))) = true
    unfold listText
    rw [okS_app, okS_of, okS_from _ _ _ (okS_of _) (D.shown_okSL l h)]
    rfl
  | .scr l, h => by
    show okS (listText (PyData.shownAll (D.pyL l))) = true
    unfold listText
    rw [okS_app, okS_of, okS_from _ _ _ (okS_of _) (D.shown_okSL l h)]
    rfl
  | .dct _ _, h => by cases h
theorem D.shown_okSL : ∀ l : List D, D.smallL l = true → ∀ t ∈ PyData.shownAll (D.pyL l), okS t = true
  | [], _, t, ht => by simp [D.pyL, PyData.shownAll] at ht
  | d :: r, h, t, ht => by
    unfold D.smallL at h
    rw [Bool.and_eq_true] at h
    have ht : t ∈ d.py.shown :: PyData.shownAll (D.pyL r) := ht
    rcases List.mem_cons.mp ht with e | ht
    · rw [e]; exact D.shown_okS d h.1
    · exact D.shown_okSL r h.2 t ht
end
theorem FnOkG.bad {P : Program} {W : World} {K : PySem.W.Frag} {mg : Str → Option Value} {base : Heap} {C : CXT} {lv : Nat} {fa : Addr} {fd : FuncData} {pn : List Str} {np : Nat} : FnOkG P W K mg base C lv fa fd pn (spD K np fun _ => .bad) :=
  ⟨fun _ _ _ _ ⟨_, _, _, _, _, _, _, h, _⟩ => (nomatch h), fun _ _ _ _ _ _ _ _ _ _ _ _ _ ⟨_, _, _, _, _, _, _, h, _⟩ => (nomatch h)⟩
end Z

/-! Z: more lemmas to compute with. -/
namespace Z
open PySem PySem.Spec PyProof.Rows L2
section
variable {it : ItD} {g g1 : MG} {tt tt1 : MT} {mi1 : MI} {me : AE} {vs vs1 : List Nat} {α β : Type} {ρ : Env}
end
@[simp] theorem mComp2_ap {mi mi1 : MI} {g g1 : MG} {tt tt1 : MT} {me : AE} {vs vs1 : List Nat} {ρ : Env} : mComp2 mi g tt mi1 g1 tt1 me vs vs1 ρ = (do
  let (it, ρ1) ← mi ρ
  if ownOk ρ1 vs && chkOk it (wipeE ρ1 vs) then do
    let (acc, ρ2) ← loopC2 it g tt mi1 g1 tt1 me vs vs1 it.items (wipeE ρ1 vs)
    if acc.length ≤ 16777216 then R.ok (.v ⟨.lst acc, 1⟩, restore ρ2 ρ1 vs) else R.bad
  else R.bad) := rfl
@[simp] theorem mSl_ap {a : AE} {lo hi : Option AE} {ρ : Env} : mSl a lo hi ρ = (do
  let (s, ρ1) ← a ρ
  let (l, ρ2) ← evO lo ρ1
  let (u, ρ3) ← evO hi ρ2
  match s.cell ρ3 with
  | some c => do
    let r ← fSl c l u
    R.ok (.v r, ρ3)
  | none => R.bad) := rfl
@[simp] theorem evO_none {ρ : Env} : evO none ρ = .ok (none, ρ) := rfl
@[simp] theorem evO_some {m : AE} {ρ : Env} : evO (some m) ρ = (do
    let (s, ρ1) ← m ρ
    match s.cell ρ1 with
    | some ⟨.int i, _⟩ => R.ok (some i, ρ1)
    | _ => R.bad) := rfl
@[simp] theorem fSl_tup {l : List D} {k : Nat} {a b : Option Int} : fSl ⟨.tup l, k⟩ a b = .ok ⟨.tup (cutD l a b), 0⟩ := rfl
@[simp] theorem fSl_lst1 {l : List D} {a b : Option Int} : fSl ⟨.lst l, 1⟩ a b = .ok ⟨.lst (cutD l a b), 1⟩ := rfl
@[simp] theorem fSl_lst0 {l : List D} {a b : Option Int} : fSl ⟨.lst l, 0⟩ a b = .ok ⟨.lst (cutD l a b), 1⟩ := rfl
@[simp] theorem f_tupT {l : List D} {k : Nat} : fTuple [⟨.tup l, k⟩] = .ok ⟨.tup l, 0⟩ := rfl
@[simp] theorem f_tupL0 {l : List D} : fTuple [⟨.lst l, 0⟩] = .ok ⟨.tup l, 0⟩ := rfl
@[simp] theorem f_listL1 {l : List D} : fList [⟨.lst l, 1⟩] = .ok ⟨.lst l, 1⟩ := rfl
@[simp] theorem f_listL0 {l : List D} : fList [⟨.lst l, 0⟩] = .ok ⟨.lst l, 1⟩ := rfl
theorem ixT {l : List D} {d : D} {i : Nat} {k k' : Nat} (h : l[i]? = some d) : fIx [⟨.tup l, k⟩, ⟨.int (i : Int), k'⟩] = .ok ⟨d, 0⟩ := by
  obtain ⟨hi, e⟩ := List.getElem?_eq_some_iff.mp h
  exact p_ixT ((atI_nat hi).trans (by rw [e]))
theorem ixL {l : List D} {d : D} {i : Nat} {k k' : Nat} (hk : k ≤ 1) (h : l[i]? = some d) : fIx [⟨.lst l, k⟩, ⟨.int (i : Int), k'⟩] = .ok ⟨d, 0⟩ := by
  obtain ⟨hi, e⟩ := List.getElem?_eq_some_iff.mp h
  exact p_ixL hk ((atI_nat hi).trans (by rw [e]))
theorem ixT0 {a : D} {r : List D} {k k' : Nat} : fIx [⟨.tup (a :: r), k⟩, ⟨.int 0, k'⟩] = .ok ⟨a, 0⟩ := ixT (i := 0) rfl
theorem ixT1 {a b : D} {r : List D} {k k' : Nat} : fIx [⟨.tup (a :: b :: r), k⟩, ⟨.int 1, k'⟩] = .ok ⟨b, 0⟩ := ixT (i := 1) rfl
theorem ixT2 {a b c : D} {r : List D} {k k' : Nat} : fIx [⟨.tup (a :: b :: c :: r), k⟩, ⟨.int 2, k'⟩] = .ok ⟨c, 0⟩ := ixT (i := 2) rfl
theorem ixT3 {a b c d : D} {r : List D} {k k' : Nat} : fIx [⟨.tup (a :: b :: c :: d :: r), k⟩, ⟨.int 3, k'⟩] = .ok ⟨d, 0⟩ := ixT (i := 3) rfl
theorem ixT4 {a b c d e : D} {r : List D} {k k' : Nat} : fIx [⟨.tup (a :: b :: c :: d :: e :: r), k⟩, ⟨.int 4, k'⟩] = .ok ⟨e, 0⟩ := ixT (i := 4) rfl
theorem asBls_map' (l : List Bool) : asBls (l.map D.bl) = some l := by
  induction l with
  | nil => rfl
  | cons a r ih => rw [List.map_cons, asBls, ih]
theorem f_allL {l : List Bool} : fAll [⟨.lst (l.map D.bl), 1⟩] = .ok ⟨.bl (l.all id), 0⟩ := by
  unfold fAll onBls
  simp only [asBls_map']
  first | done | simp
theorem f_anyL {l : List Bool} : fAny [⟨.lst (l.map D.bl), 1⟩] = .ok ⟨.bl (l.any id), 0⟩ := by
  unfold fAny onBls
  simp only [asBls_map']
  first | done | simp
end Z

/-! Z: lists of lists that are changed. -/
namespace Z
open PySem PySem.Spec PyProof.Rows L2
section
variable {X : Cx} {K : PySem.W.Frag} {H : Hp} {w : OM} {σ : L2.St} {ρ : Env} {n : Nat}
theorem Ow1L.step2 {H' : Hp} {w' : OM} {o : Own} (k : Kp .no H w H' w') : ∀ {ds : List D} {vs : List V}, Ow1L K H w o ds vs → (∀ a, V.ref a ∈ vs → H' a = H a ∧ w' a = w a) → Ow1L K H' w' o ds vs
  | _, _, .nil, _ => .nil
  | _, _, .cons h n t r, q => .cons ((q _ (List.mem_cons_self ..)).1.trans h) ((q _ (List.mem_cons_self ..)).2.trans n) (t.step k) (Ow1L.step2 k r fun a ha => q a (List.mem_cons_of_mem _ ha))
theorem Ow1L.at {o : Own} {l : List D} : ∀ {ds : List D} {vs : List V} (q : Nat), Ow1L K H w o ds vs → ds[q]? = some (.lst l) → ∃ b us, vs[q]? = some (.ref b) ∧ H b = some (.lst us) ∧ w b = o ∧ FzL K H w l us
  | _, _, 0, .cons h n t _, e => by
    rw [List.getElem?_cons_zero] at e
    cases e
    exact ⟨_, _, List.getElem?_cons_zero, h, n, t⟩
  | _, _, q + 1, .cons _ _ _ r, e => by
    rw [List.getElem?_cons_succ] at e
    rw [List.getElem?_cons_succ]
    exact Ow1L.at q r e
  | _, _, q, .nil, e => by simp at e
theorem Ow1L.write {o : Own} {b : Addr} {us : List V} {l : List D} (hb : w b = o) (ho : o ≠ .no) (t : FzL K H w l us) : ∀ {ds : List D} {vs : List V} (q : Nat), Ow1L K H w o ds vs → vs.Nodup → vs[q]? = some (.ref b) → Ow1L K (upd H b (.lst us)) w o (ds.set q (.lst l)) vs
  | _, _, 0, .cons h n t1 r, nd, e => by
    rw [List.getElem?_cons_zero] at e
    cases e
    rw [List.set_cons_zero]
    have kp : Kp .no H w (upd H b (.lst us)) w := Kp.write (by rw [hb]; exact ho) (by rw [hb]; exact ho)
    exact .cons upd_same n (t.step kp) (r.step2 kp fun c hc => ⟨upd_ne fun z => (List.nodup_cons.mp nd).1 (z ▸ hc), rfl⟩)
  | _, _, q + 1, .cons h n t1 r, nd, e => by
    rw [List.getElem?_cons_succ] at e
    rw [List.set_cons_succ]
    have kp : Kp .no H w (upd H b (.lst us)) w := Kp.write (by rw [hb]; exact ho) (by rw [hb]; exact ho)
    exact .cons ((upd_ne (by
      intro z
      exact (List.nodup_cons.mp nd).1 (z ▸ List.mem_of_getElem? e))).trans h) n (t1.step kp) (Ow1L.write hb ho t q r (List.nodup_cons.mp nd).2 e)
  | _, _, q, .nil, nd, e => by simp at e
/-- x[i].append(v) -/
def mAppIx (i : Nat) (mi m : AE) : AE := fun ρ => match ρ.get i with
  | some ⟨.lst _, 2⟩ => do
    let (si, ρ1) ← mi ρ
    match si.cell ρ1, ρ1.get i with
    | some ⟨.int j, _⟩, some ⟨.lst ls, 2⟩ =>
      match ixN ls.length j with
      | some q => match ls[q]? with
        | some (.lst l) => do
          let (s, ρ2) ← m (ρ1.set i none)
          let (c, ρ3) ← esc s ρ2
          if l.length < 16777216 then R.ok (.v (Cell.fz .non), ρ3.set i (some ⟨.lst (ls.set q (.lst (l ++ [c.d]))), 2⟩)) else R.bad
        | _ => R.bad
      | none => R.bad
    | _, _ => R.bad
  | _ => R.bad
end
end Z

/-! Z: == and in, of things without truth values. -/
namespace Z
open PySem PySem.Spec PyProof.Rows L2
/-- ints, strings, None and tuples of such, at most n deep -/
def D.pl : Nat → D → Bool
  | _, .non => true
  | _, .int _ => true
  | _, .str x => D.okd.strOk x
  | n + 1, .tup l => l.all (D.pl n)
  | _, _ => false
theorem D.pl_okd : ∀ (n : Nat) (d : D), d.pl n = true → d.okd n = true
  | _, .non, _ => by simp [D.okd]
  | _, .int _, _ => by simp [D.okd]
  | _, .str x, h => by simpa [D.okd, D.pl] using h
  | 0, .tup l, h => by simp [D.pl] at h
  | n + 1, .tup l, h => by
    simp only [D.pl, D.okd, List.all_eq_true] at h ⊢
    exact fun d hd => D.pl_okd n d (h d hd)
  | _, .bl _, h => by simp [D.pl] at h
  | _, .lst _, h => by simp [D.pl] at h
  | _, .scr _, h => by simp [D.pl] at h
  | _, .dct _ _, h => by simp [D.pl] at h
theorem eqvAll_dec : ∀ {l m : List D}, (∀ x ∈ l, ∀ y ∈ m, x.eqv y = decide (x = y)) → PyData.eqvAll (D.pyL l) (D.pyL m) = decide (l = m)
  | [], [], _ => by simp [D.pyL, PyData.eqvAll]
  | [], _ :: _, _ => by simp [D.pyL, PyData.eqvAll]
  | _ :: _, [], _ => by simp [D.pyL, PyData.eqvAll]
  | x :: l, y :: m, h => by
    have h1 := h x (by simp) y (by simp)
    have h2 := eqvAll_dec (l := l) (m := m) fun a ha b hb => h a (by simp [ha]) b (by simp [hb])
    unfold D.eqv at h1
    simp only [D.pyL, PyData.eqvAll, h1, h2, List.cons.injEq, Bool.decide_and]
theorem eqv_pl : ∀ (n : Nat) (x y : D), x.pl n = true → y.pl n = true → x.eqv y = decide (x = y)
  | n, .tup l, .tup m, h, h' => by
    cases n with
    | zero => simp [D.pl] at h
    | succ n =>
      simp only [D.pl, List.all_eq_true] at h h'
      have := eqvAll_dec (l := l) (m := m) fun x hx y hy => eqv_pl n x y (h x hx) (h' y hy)
      show PyData.eqvAll (D.pyL l) (D.pyL m) = _
      rw [this]
      simp
  | _, .non, .non, _, _ => by show true = _; simp
  | _, .int a, .int b, _, _ => by show (a == b) = _; by_cases q : a = b <;> simp [q]
  | _, .str a, .str b, _, _ => by show (a == b) = _; by_cases q : a = b <;> simp [q]
  | _, .non, .int _, _, _ => by show false = _; simp
  | _, .non, .str _, _, _ => by show false = _; simp
  | _, .non, .tup _, _, _ => by show false = _; simp
  | _, .int _, .non, _, _ => by show false = _; simp
  | _, .int _, .str _, _, _ => by show false = _; simp
  | _, .int _, .tup _, _, _ => by show false = _; simp
  | _, .str _, .non, _, _ => by show false = _; simp
  | _, .str _, .int _, _, _ => by show false = _; simp
  | _, .str _, .tup _, _, _ => by show false = _; simp
  | _, .tup _, .non, _, _ => by show false = _; simp
  | _, .tup _, .int _, _, _ => by show false = _; simp
  | _, .tup _, .str _, _, _ => by show false = _; simp
  | _, .bl _, _, h, _ => by simp [D.pl] at h
  | _, .lst _, _, h, _ => by simp [D.pl] at h
  | _, .scr _, _, h, _ => by simp [D.pl] at h
  | _, .dct _ _, _, h, _ => by simp [D.pl] at h
  | _, _, .bl _, _, h => by simp [D.pl] at h
  | _, _, .lst _, _, h => by simp [D.pl] at h
  | _, _, .scr _, _, h => by simp [D.pl] at h
  | _, _, .dct _ _, _, h => by simp [D.pl] at h
theorem f_eqP {x y : D} {k k' : Nat} (h : x.pl 60 = true) (h' : y.pl 60 = true) : fEq [⟨x, k⟩, ⟨y, k'⟩] = .ok ⟨.bl (decide (x = y)), 0⟩ := by
  unfold fEq
  simp only [D.pl_okd _ _ h, D.pl_okd _ _ h', Bool.and_true, if_true, eqv_pl 60 x y h h']
  rfl
theorem f_neP {x y : D} {k k' : Nat} (h : x.pl 60 = true) (h' : y.pl 60 = true) : fNe [⟨x, k⟩, ⟨y, k'⟩] = .ok ⟨.bl (!decide (x = y)), 0⟩ := by
  unfold fNe
  simp only [D.pl_okd _ _ h, D.pl_okd _ _ h', Bool.and_true, if_true, eqv_pl 60 x y h h']
  rfl
theorem any_pl {x : D} {l : List D} (h : x.pl 60 = true) (h' : ∀ y ∈ l, y.pl 60 = true) : (l.any fun z => z.eqv x) = decide (x ∈ l) := by
  induction l with
  | nil => simp
  | cons a r ih =>
    rw [List.any_cons, ih fun y hy => h' y (by simp [hy]), eqv_pl 60 a x (h' a (by simp)) h]
    by_cases q : a = x
    · simp [q]
    · simp [q, Ne.symm q]
theorem pl_mono : ∀ (n : Nat) (d : D), d.pl n = true → d.pl (n + 1) = true
  | _, .non, _ => by simp [D.pl]
  | _, .int _, _ => by simp [D.pl]
  | _, .str _, h => by simpa [D.pl] using h
  | 0, .tup l, h => by simp [D.pl] at h
  | n + 1, .tup l, h => by
    rw [D.pl, List.all_eq_true] at h ⊢
    exact fun d hd => pl_mono n d (h d hd)
  | _, .bl _, h => by simp [D.pl] at h
  | _, .lst _, h => by simp [D.pl] at h
  | _, .scr _, h => by simp [D.pl] at h
  | _, .dct _ _, h => by simp [D.pl] at h
theorem f_inT {x : D} {l : List D} {k k' : Nat} {neg : Bool} (h : x.pl 59 = true) (h' : ∀ y ∈ l, y.pl 59 = true) : fIn neg [⟨x, k⟩, ⟨.tup l, k'⟩] = .ok ⟨.bl (neg ^^ decide (x ∈ l)), 0⟩ := by
  have h1 := pl_mono 59 x h
  have h2 : (D.tup l).pl 60 = true := by rw [D.pl, List.all_eq_true]; exact h'
  have e : inB x (.tup l) = .ok (decide (x ∈ l)) := by
    unfold inB
    simp only [D.pl_okd _ _ h1, D.pl_okd _ _ h2, Bool.and_true, if_true]
    rw [any_pl h1 fun y hy => pl_mono 59 y (h' y hy)]
  unfold fIn
  simp only [e, R.ok_bind]
  rfl
theorem f_inL {x : D} {l : List D} {k k' : Nat} {neg : Bool} (h : x.pl 59 = true) (h' : ∀ y ∈ l, y.pl 59 = true) : fIn neg [⟨x, k⟩, ⟨.lst l, k'⟩] = .ok ⟨.bl (neg ^^ decide (x ∈ l)), 0⟩ := by
  have h1 := pl_mono 59 x h
  have h2 : (D.lst l).okd 60 = true := by rw [D.okd, List.all_eq_true]; exact fun y hy => D.pl_okd _ _ (h' y hy)
  have e : inB x (.lst l) = .ok (decide (x ∈ l)) := by
    unfold inB
    simp only [D.pl_okd _ _ h1, h2, Bool.and_true, if_true]
    rw [any_pl h1 fun y hy => pl_mono 59 y (h' y hy)]
  unfold fIn
  simp only [e, R.ok_bind]
  rfl
theorem mem_nL {i : Nat} {l : List Nat} : D.int (i : Int) ∈ nL l ↔ i ∈ l := by
  unfold nL
  rw [List.mem_map]
  constructor
  · rintro ⟨j, h, e⟩
    simp only [D.int.injEq] at e
    rw [← show j = i by omega]; exact h
  · intro h; exact ⟨i, h, rfl⟩
theorem nL_pl {a : List Nat} {n : Nat} : ∀ y ∈ nL a, y.pl n = true := fun y hy => by
  obtain ⟨i, _, rfl⟩ := List.mem_map.mp hy
  simp [D.pl]
theorem f_inN {i : Nat} {l : List Nat} {k k' : Nat} {neg : Bool} : fIn neg [⟨.int (i : Int), k⟩, ⟨nD l, k'⟩] = .ok ⟨.bl (neg ^^ decide (i ∈ l)), 0⟩ := by
  have := f_inT (x := .int (i : Int)) (l := nL l) (k := k) (k' := k') (neg := neg) (by simp [D.pl]) nL_pl
  simp only [mem_nL] at this
  exact this
end Z

/-! Z: a name that is given a second name (`a = b`, b is read again): both are frozen. -/
namespace Z
open PySem PySem.Spec PyProof.Rows L2
def aFz (i : Nat) : AE := fun ρ => match ρ.get i with
  | some c => .ok (.v ⟨c.d, 0⟩, ρ.set i (some ⟨c.d, 0⟩))
  | none => .bad
@[simp] theorem aFz_s {i : Nat} {ρ : Env} : aFz i ρ = (match ρ.get i with | some c => .ok (.v ⟨c.d, 0⟩, ρ.set i (some ⟨c.d, 0⟩)) | none => .bad) := rfl
section
variable {X : Cx}
theorem sa_fz {i : Nat} {x : Str} {pos : Pos} (hN : X.N[i]? = some x := by rfl) (hv : Vis X.env.scope x := by first | exact Or.inl rfl | exact Or.inr (Or.inl rfl) | exact Or.inr (Or.inr rfl)) (hd : (x == ("__debug__" : Str)) = false := by decide) (hcd : (x == ("__classdict__" : Str)) = false := by decide) :
    SA X (.Name x pos) (aFz i) := by
  refine ⟨_, pe_var hN hv hd hcd, fun n σ H w ρ s ρ' Q ok hm k => ?_⟩
  unfold aFz at hm
  split at hm
  · rename_i c hc
    cases hm
    obtain ⟨v, e, ow⟩ := ok.slot i c hc
    exact ⟨v, e, k v H _ (ok.freeze hc) (Step.re not_fixed_sl) (.fz (ow.freeze (by intro z; cases z)))⟩
  · cases hm
end
end Z

/-! ZP: what comes out, goal by goal. -/
namespace Z
open PySem PySem.Spec PyProof.Rows L2
section
variable {α β σ : Type} {x y : R α} {f : α → R β} {Q : α → Prop} {a : α}
@[simp] theorem Ret_bad : Ret (.bad : R α) Q ↔ False := ⟨(fun ⟨_, e, _⟩ => nomatch e), (fun h => h.elim)⟩
@[simp] theorem Ret_bind {Q : β → Prop} : Ret (x >>= f) Q ↔ Ret x fun a => Ret (f a) Q := by
  constructor
  · rintro ⟨b, e, h⟩
    obtain ⟨a, e1, e2⟩ := R.of_bind e
    exact ⟨a, e1, b, e2, h⟩
  · rintro ⟨a, rfl, b, e, h⟩
    exact ⟨b, e, h⟩
theorem Ret.eq (h : Ret x fun b => b = a) : x = .ok a := by
  obtain ⟨b, rfl, rfl⟩ := h
  rfl
theorem Ret.of (e : x = .ok a) (h : Q a) : Ret x Q := ⟨a, e, h⟩
theorem Ret.ex {P : α → Prop} (h : Ret x P) : ∃ a, x = .ok a ∧ P a := h
@[simp] theorem Ret_guard {c : Prop} [Decidable c] : Ret (if c then x else .bad) Q ↔ c ∧ Ret x Q := by
  by_cases h : c <;> simp [h]
end
/-! junk: slots of which nothing is said -/
def fillJ (js : List Nat) (j : Nat → Option Cell) : Nat → Env → Env
  | _, [] => []
  | i, c :: r => (if i ∈ js then j i else c) :: fillJ js j (i + 1) r
@[simp] theorem fillJ_nil {js : List Nat} {j : Nat → Option Cell} {i : Nat} : fillJ js j i [] = [] := rfl
@[simp] theorem fillJ_cons {js : List Nat} {j : Nat → Option Cell} {i : Nat} {c : Option Cell} {r : Env} : fillJ js j i (c :: r) = (if i ∈ js then j i else c) :: fillJ js j (i + 1) r := rfl
theorem fillJ_get {js : List Nat} : ∀ {ρ : Env} {i : Nat} {j : Nat → Option Cell}, (∀ k, j (i + k) = ρ.get k) → fillJ js j i ρ = ρ
  | [], _, _, _ => rfl
  | c :: r, i, j, h => by
    rw [fillJ_cons, fillJ_get (i := i + 1) fun k => by rw [show i + 1 + k = i + (k + 1) by omega, h]; rfl]
    have := h 0
    rw [Nat.add_zero] at this
    rw [this]
    split <;> rfl
theorem fillJ_self {js : List Nat} {ρ : Env} : fillJ js (fun i => ρ.get i) 0 ρ = ρ := fillJ_get fun k => by rw [Nat.zero_add]
/-! ### loops -/
section
variable {it : ItD} {g : MG} {body : MS} {L : List Nat} {ds : List D} {ρ : Env} {Q : Fl × Env → Prop} {α σ : Type}
/-- a loop: put writes the state into the slots, js are the slots of which nothing is said -/
theorem Ret_for (xs : List α) (toD : α → D) (js : List Nat) (put : σ → Env → Env) (I : List α → List α → σ → Prop) (s0 : σ) (hx : ds = xs.map toD) (h0 : ρ = put s0 ρ) (hI : I [] xs s0)
    (h : ∀ done x rest s j, xs = done ++ x :: rest → I done (x :: rest) s → Ret (step1 it g body L (toD x) (fillJ js j 0 (put s ρ))) fun y =>
      (y.1 = .next ∧ ∃ s', y.2 = fillJ js (fun i => y.2.get i) 0 (put s' ρ) ∧ I (done ++ [x]) rest s') ∨ (∃ c, y.1 = .ret c ∧ Q (.ret c, y.2)) ∨ (y.1 = .brk ∧ Q (.next, y.2)))
    (k : ∀ s j, I xs [] s → Q (.next, fillJ js j 0 (put s ρ))) : Ret (loopF it g body L ds ρ) Q := by
  subst hx
  have key : ∀ (rest done : List α) (s : σ) (j : Nat → Option Cell), xs = done ++ rest → I done rest s → Ret (loopF it g body L (rest.map toD) (fillJ js j 0 (put s ρ))) Q := by
    intro rest
    induction rest with
    | nil =>
      intro done s j e hi
      rw [List.append_nil] at e
      subst e
      exact ⟨_, rfl, k s j hi⟩
    | cons x rest ih =>
      intro done s j e hi
      obtain ⟨⟨fl, ρ'⟩, e1, h1⟩ := h done x rest s j e hi
      rw [List.map_cons]
      rcases h1 with ⟨rfl, s', e2, hi'⟩ | ⟨c, rfl, hq⟩ | ⟨rfl, hq⟩
      · dsimp only at e2
        rw [loop_next e1, e2]
        exact ih (done ++ [x]) s' _ (by rw [e, List.append_assoc]; rfl) hi'
      · exact ⟨_, loop_ret e1, hq⟩
      · exact ⟨_, loop_brk e1, hq⟩
  have := key xs [] s0 (fun i => ρ.get i) rfl hI
  rw [← h0, fillJ_self] at this
  exact this
/-- a loop over range(n) -/
theorem Ret_range (n : Nat) (js : List Nat) (put : σ → Env → Env) (I : Nat → σ → Prop) (s0 : σ) (hx : ds = (List.range n).map fun (i : Nat) => D.int (i : Int)) (h0 : ρ = put s0 ρ) (hI : I 0 s0)
    (h : ∀ (i : Nat) s j, i < n → I i s → Ret (step1 it g body L (.int (i : Int)) (fillJ js j 0 (put s ρ))) fun y =>
      (y.1 = .next ∧ ∃ s', y.2 = fillJ js (fun i => y.2.get i) 0 (put s' ρ) ∧ I (i + 1) s') ∨ (∃ c, y.1 = .ret c ∧ Q (.ret c, y.2)) ∨ (y.1 = .brk ∧ Q (.next, y.2)))
    (k : ∀ s j, I n s → Q (.next, fillJ js j 0 (put s ρ))) : Ret (loopF it g body L ds ρ) Q := by
  refine Ret_for (List.range n) (fun (i : Nat) => D.int (i : Int)) js put (fun done _ s => I done.length s) s0 hx h0 hI (fun done x rest s j e hi => ?_) fun s j hi => k s j (by simpa using hi)
  have hl := congrArg List.length e
  have hg := congrArg (fun l : List Nat => l[done.length]?) e
  simp at hl hg
  have hlt : done.length < n := by omega
  rw [List.getElem?_eq_getElem (by simpa using hlt)] at hg
  simp at hg
  have := h done.length s j hlt hi
  subst hg
  simpa using this
end
/-! ### comprehensions -/
section
variable {it : ItD} {g g1 : MG} {tt tt1 : MT} {mi1 : MI} {me : AE} {vs vs1 : List Nat} {ds : List D} {ρ : Env} {Q : List D × Env → Prop} {α β σ : Type}
theorem Ret_comp (xs : List α) (toD : α → D) (f : α → D) (hx : ds = xs.map toD) (h : ∀ x ∈ xs, Ret (comp1 it g tt me vs (toD x) ρ) fun y => y = (some (f x), ρ)) (k : Q (xs.map f, ρ)) : Ret (loopC it g tt me vs ds ρ) Q := by
  subst hx
  exact ⟨_, comp_m toD f fun x hx => (h x hx).eq, k⟩
theorem Ret_compF (xs : List α) (toD : α → D) (p : α → Bool) (f : α → D) (hx : ds = xs.map toD) (h : ∀ x ∈ xs, Ret (comp1 it g tt me vs (toD x) ρ) fun y => y = (if p x then some (f x) else none, ρ)) (k : Q ((xs.filter p).map f, ρ)) : Ret (loopC it g tt me vs ds ρ) Q := by
  subst hx
  exact ⟨_, comp_f toD p f fun x hx => (h x hx).eq, k⟩
/-- a comprehension that changes a state -/
theorem Ret_compS (xs : List α) (toD : α → D) (toE : β → D) (put : σ → Env → Env) (I : List α → List α → σ → List β → Prop) (s0 : σ) (hx : ds = xs.map toD) (h0 : ρ = put s0 ρ) (hI : I [] xs s0 [])
    (h : ∀ done x rest s acc, xs = done ++ x :: rest → I done (x :: rest) s acc → Ret (comp1 it g tt me vs (toD x) (put s ρ)) fun y => ∃ s', y.2 = put s' ρ ∧ ((y.1 = none ∧ I (done ++ [x]) rest s' acc) ∨ ∃ b, y.1 = some (toE b) ∧ I (done ++ [x]) rest s' (acc ++ [b])))
    (k : ∀ s acc, I xs [] s acc → Q (acc.map toE, put s ρ)) : Ret (loopC it g tt me vs ds ρ) Q := by
  subst hx
  have key : ∀ (rest done : List α) (s : σ) (acc : List β), xs = done ++ rest → I done rest s acc → Ret (loopC it g tt me vs (rest.map toD) (put s ρ)) fun y => ∃ s' acc', y = (acc'.map toE, put s' ρ) ∧ I xs [] s' (acc ++ acc') := by
    intro rest
    induction rest with
    | nil =>
      intro done s acc e hi
      rw [List.append_nil] at e
      subst e
      exact ⟨_, rfl, s, [], rfl, by rw [List.append_nil]; exact hi⟩
    | cons x rest ih =>
      intro done s acc e hi
      obtain ⟨⟨o, ρ'⟩, e1, s', e2, h1⟩ := h done x rest s acc e hi
      dsimp only at e2 h1
      subst e2
      rw [List.map_cons, comp_next e1]
      rcases h1 with ⟨rfl, hi'⟩ | ⟨b, rfl, hi'⟩
      · obtain ⟨⟨out, ρ2⟩, e3, s2, acc2, e4, hi2⟩ := ih (done ++ [x]) s' acc (by rw [e, List.append_assoc]; rfl) hi'
        cases e4
        exact ⟨_, by rw [e3]; rfl, s2, acc2, rfl, hi2⟩
      · obtain ⟨⟨out, ρ2⟩, e3, s2, acc2, e4, hi2⟩ := ih (done ++ [x]) s' (acc ++ [b]) (by rw [e, List.append_assoc]; rfl) hi'
        cases e4
        exact ⟨_, by rw [e3]; rfl, s2, b :: acc2, rfl, by rw [List.append_assoc] at hi2; exact hi2⟩
  obtain ⟨y, e, s', acc', rfl, hi⟩ := key xs [] s0 [] rfl hI
  rw [← h0] at e
  exact ⟨_, e, k s' acc' (by simpa using hi)⟩
end
/-! ### operations -/
section
variable {Q : Cell → Prop} {α : Type} {k k' : Nat}
theorem atI_big {l : List α} {n : Nat} (h : ¬ n < l.length) : atI l (n : Int) = none := by
  unfold atI ixN
  simp [h]
@[simp] theorem Ret_ixM [Inhabited α] {xs : List α} {f : α → D} {i : Nat} : Ret (fIx [⟨.tup (xs.map f), k⟩, ⟨.int (i : Int), k'⟩]) Q ↔ i < xs.length ∧ Q ⟨f (xs.getD i default), 0⟩ := by
  by_cases h : i < xs.length
  · rw [ixT (d := f (xs.getD i default)) (by simp [List.getElem?_eq_getElem h])]
    simp [h]
  · have : fIx [⟨.tup (xs.map f), k⟩, ⟨.int (i : Int), k'⟩] = .bad := by
      show (match atI (xs.map f) (i : Int) with | some d => R.ok (Cell.fz d) | none => .bad) = _
      rw [atI_big (by simpa using h)]
    rw [this]
    simp [h]
@[simp] theorem Ret_ixML [Inhabited α] {xs : List α} {f : α → D} {i : Nat} : Ret (fIx [⟨.lst (xs.map f), 1⟩, ⟨.int (i : Int), k'⟩]) Q ↔ i < xs.length ∧ Q ⟨f (xs.getD i default), 0⟩ := by
  by_cases h : i < xs.length
  · rw [ixL (d := f (xs.getD i default)) (by omega) (by simp [List.getElem?_eq_getElem h])]
    simp [h]
  · have : fIx [⟨.lst (xs.map f), 1⟩, ⟨.int (i : Int), k'⟩] = .bad := by
      show (match atI (xs.map f) (i : Int) with | some d => R.ok (Cell.fz d) | none => .bad) = _
      rw [atI_big (by simpa using h)]
    rw [this]
    simp [h]
@[simp] theorem Ret_ixML0 [Inhabited α] {xs : List α} {f : α → D} {i : Nat} : Ret (fIx [⟨.lst (xs.map f), 0⟩, ⟨.int (i : Int), k'⟩]) Q ↔ i < xs.length ∧ Q ⟨f (xs.getD i default), 0⟩ := by
  have := Ret_ixML (Q := Q) (xs := xs) (f := f) (i := i) (k' := k')
  exact this
@[simp] theorem Ret_ixN {ps : List Nat} {i : Nat} : Ret (fIx [⟨nD ps, k⟩, ⟨.int (i : Int), k'⟩]) Q ↔ i < ps.length ∧ Q ⟨.int (ps.getD i 0 : Nat), 0⟩ := Ret_ixM
@[simp] theorem Ret_ixI {ps : List Int} {i : Nat} : Ret (fIx [⟨iD ps, k⟩, ⟨.int (i : Int), k'⟩]) Q ↔ i < ps.length ∧ Q ⟨.int (ps.getD i 0), 0⟩ := Ret_ixM
@[simp] theorem Ret_append {l : List D} {d : D} {Q : D × List D → Prop} : Ret (fAppend l [d]) Q ↔ l.length < 16777216 ∧ Q (.non, l ++ [d]) := by
  unfold fAppend
  simp
@[simp] theorem rgB_iff {n : Nat} : rgB 0 (n : Int) = true ↔ n < 4611686018427387904 := by
  unfold rgB
  rw [decide_eq_true_eq]
  omega
theorem Ret_draw {l : List D} {m : Int} {Q : Cell × List Cell → Prop} (h : DSl l) (h0 : 0 < m) (h1 : m < 4611686018427387904) (k : ∀ (n : Nat) (l' : List D), DSl l' → (n : Int) < m → Q (⟨.int (n : Int), 0⟩, [⟨.lst l', 1⟩, ⟨.int m, 0⟩])) : Ret (c_draw [⟨.lst l, 1⟩, ⟨.int m, 0⟩]) Q :=
  ⟨_, draw_s h h0 h1, k _ _ h.d (dN_lt h h0 h1)⟩
theorem Ret_drawN {l : List D} {m : Nat} {Q : Cell × List Cell → Prop} (h : DSl l) (h0 : 0 < m) (h1 : m < 4611686018427387904) (k : ∀ (n : Nat) (l' : List D), DSl l' → n < m → Q (⟨.int (n : Int), 0⟩, [⟨.lst l', 1⟩, ⟨.int (m : Int), 0⟩])) : Ret (c_draw [⟨.lst l, 1⟩, ⟨.int (m : Int), 0⟩]) Q :=
  Ret_draw h (by omega) (by omega) fun n l' h1 h2 => k n l' h1 (by omega)
end
section
variable {it : ItD} {g : MG} {body : MS} {L : List Nat} {ds : List D} {ρ : Env} {Q : Fl × Env → Prop} {α : Type}
/-- a loop that looks for the first that makes it return -/
theorem Ret_search (xs : List α) (toD : α → D) (js : List Nat) (f : α → Option Cell) (hx : ds = xs.map toD)
    (h : ∀ x j, x ∈ xs → Ret (step1 it g body L (toD x) (fillJ js j 0 ρ)) fun y => y.2 = fillJ js (fun i => y.2.get i) 0 ρ ∧ y.1 = (match f x with | none => Fl.next | some c => Fl.ret c))
    (k : ∀ j, Q (match xs.findSome? f with | none => Fl.next | some c => Fl.ret c, fillJ js j 0 ρ)) : Ret (loopF it g body L ds ρ) Q := by
  subst hx
  have key : ∀ (rest : List α) (j : Nat → Option Cell), (∀ x ∈ rest, x ∈ xs) → (∀ j, Q (match rest.findSome? f with | none => Fl.next | some c => Fl.ret c, fillJ js j 0 ρ)) → Ret (loopF it g body L (rest.map toD) (fillJ js j 0 ρ)) Q := by
    intro rest
    induction rest with
    | nil =>
      intro j _ hk
      exact ⟨_, rfl, hk j⟩
    | cons x rest ih =>
      intro j hm hk
      obtain ⟨⟨fl, ρ'⟩, e1, e2, e3⟩ := h x j (hm x (List.mem_cons_self ..))
      dsimp only at e2 e3
      rw [List.findSome?_cons] at hk
      rw [List.map_cons]
      cases hf : f x with
      | none =>
        rw [hf] at e3 hk
        subst e3
        rw [loop_next e1, e2]
        exact ih _ (fun y hy => hm y (List.mem_cons_of_mem _ hy)) hk
      | some c =>
        rw [hf] at e3 hk
        subst e3
        refine ⟨_, loop_ret e1, ?_⟩
        rw [e2]
        exact hk _
  have := key xs (fun i => ρ.get i) (fun _ h => h) k
  rw [fillJ_self] at this
  exact this
end
/-! the greatest, the least of numbers -/
def mxL : List Int → Int
  | [] => 0
  | x :: r => maxL x r
def mnL : List Int → Int
  | [] => 0
  | x :: r => minL x r
theorem mxL_mem {l : List Int} (h : l ≠ []) : mxL l ∈ l := by
  cases l with
  | nil => exact absurd rfl h
  | cons x r => exact maxL_mem r x
theorem mxL_ge {l : List Int} {x : Int} (h : x ∈ l) : x ≤ mxL l := by
  cases l with
  | nil => simp at h
  | cons y r => exact maxL_ge r y x h
theorem mnL_mem {l : List Int} (h : l ≠ []) : mnL l ∈ l := by
  cases l with
  | nil => exact absurd rfl h
  | cons x r => exact minL_mem r x
theorem mnL_le {l : List Int} {x : Int} (h : x ∈ l) : mnL l ≤ x := by
  cases l with
  | nil => simp at h
  | cons y r => exact minL_le r y x h
section
variable {Q : Cell → Prop} {k k' : Nat}
@[simp] theorem Ret_maxL {l : List Int} : Ret (fMax [⟨.lst (l.map D.int), 1⟩]) Q ↔ l ≠ [] ∧ Q ⟨.int (mxL l), 0⟩ := by
  cases l with
  | nil => 
    have : fMax [⟨.lst (([] : List Int).map D.int), 1⟩] = .bad := rfl
    rw [this]
    simp
  | cons x r =>
    have : fMax [⟨.lst ((x :: r).map D.int), 1⟩] = .ok ⟨.int (maxL x r), 0⟩ := by
      unfold fMax onInts
      simp only [asInts_map, if_true, R.ok_bind]
      rfl
    rw [this]
    simp [mxL]
@[simp] theorem Ret_maxL0 {l : List Int} : Ret (fMax [⟨.lst (l.map D.int), 0⟩]) Q ↔ l ≠ [] ∧ Q ⟨.int (mxL l), 0⟩ := Ret_maxL
@[simp] theorem Ret_minL {l : List Int} : Ret (fMin [⟨.lst (l.map D.int), 1⟩]) Q ↔ l ≠ [] ∧ Q ⟨.int (mnL l), 0⟩ := by
  cases l with
  | nil => 
    have : fMin [⟨.lst (([] : List Int).map D.int), 1⟩] = .bad := rfl
    rw [this]
    simp
  | cons x r =>
    have : fMin [⟨.lst ((x :: r).map D.int), 1⟩] = .ok ⟨.int (minL x r), 0⟩ := by
      unfold fMin onInts
      simp only [asInts_map, if_true, R.ok_bind]
      rfl
    rw [this]
    simp [mnL]
@[simp] theorem Ret_minL0 {l : List Int} : Ret (fMin [⟨.lst (l.map D.int), 0⟩]) Q ↔ l ≠ [] ∧ Q ⟨.int (mnL l), 0⟩ := Ret_minL
@[simp] theorem Ret_mul {i j : Int} : Ret (fMul [⟨.int i, k⟩, ⟨.int j, k'⟩]) Q ↔ cmul i j = true ∧ Q ⟨.int (i * j), 0⟩ := by
  have : fMul [⟨.int i, k⟩, ⟨.int j, k'⟩] = if cmul i j = true then .ok (Cell.fz (.int (i * j))) else .bad := rfl
  rw [this]
  simp
@[simp] theorem Ret_div {i j : Int} : Ret (fDiv [⟨.int i, k⟩, ⟨.int j, k'⟩]) Q ↔ (0 < j ∧ j < 4611686018427387904) ∧ Q ⟨.int (i / j), 0⟩ := by
  by_cases h : 0 < j ∧ j < 4611686018427387904
  · rw [p_div h]; simp [h]
  · have : fDiv [⟨.int i, k⟩, ⟨.int j, k'⟩] = .bad := by unfold fDiv fI2; simp [h]
    rw [this]; simp [h]
@[simp] theorem Ret_mod {i j : Int} : Ret (fMod [⟨.int i, k⟩, ⟨.int j, k'⟩]) Q ↔ 0 < j ∧ Q ⟨.int (i % j), 0⟩ := by
  by_cases h : 0 < j
  · rw [p_mod h]; simp [h]
  · have : fMod [⟨.int i, k⟩, ⟨.int j, k'⟩] = .bad := by unfold fMod fI2; simp [h]
    rw [this]; simp [h]
@[simp] theorem Ret_addT {l m : List D} : Ret (fAdd [⟨.tup l, k⟩, ⟨.tup m, k'⟩]) Q ↔ l.length + m.length ≤ 16777216 ∧ Q ⟨.tup (l ++ m), 0⟩ := by
  have : fAdd [⟨.tup l, k⟩, ⟨.tup m, k'⟩] = if l.length + m.length ≤ 16777216 then .ok (Cell.fz (.tup (l ++ m))) else .bad := rfl
  rw [this]
  simp
@[simp] theorem Ret_ext {l m : List D} {Q : D × List D → Prop} : Ret (fExtend l [.lst m]) Q ↔ l.length + m.length ≤ 16777216 ∧ Q (.non, l ++ m) := by
  unfold fExtend
  simp
end
section
variable {it : ItD} {g : MG} {body : MS} {L : List Nat} {ds : List D} {ρ : Env} {Q : Fl × Env → Prop} {α β : Type}
end
section
variable {k k' : Nat}
@[simp] theorem notN_tup {l : List D} : fNotN [⟨.tup l, k⟩, ⟨.non, k'⟩] = .ok ⟨.bl true, 0⟩ := rfl
@[simp] theorem isN_tup {l : List D} : fIsN [⟨.tup l, k⟩, ⟨.non, k'⟩] = .ok ⟨.bl false, 0⟩ := rfl
@[simp] theorem notN_nD {l : List Nat} : fNotN [⟨nD l, k⟩, ⟨.non, k'⟩] = .ok ⟨.bl true, 0⟩ := rfl
@[simp] theorem isN_nD {l : List Nat} : fIsN [⟨nD l, k⟩, ⟨.non, k'⟩] = .ok ⟨.bl false, 0⟩ := rfl
@[simp] theorem notN_int {i : Int} : fNotN [⟨.int i, k⟩, ⟨.non, k'⟩] = .ok ⟨.bl true, 0⟩ := rfl
@[simp] theorem isN_int {i : Int} : fIsN [⟨.int i, k⟩, ⟨.non, k'⟩] = .ok ⟨.bl false, 0⟩ := rfl
@[simp] theorem notN_non : fNotN [⟨.non, k⟩, ⟨.non, k'⟩] = .ok ⟨.bl false, 0⟩ := rfl
@[simp] theorem isN_non : fIsN [⟨.non, k⟩, ⟨.non, k'⟩] = .ok ⟨.bl true, 0⟩ := rfl
end
end Z

/-! ZQ: tuples turned about, tuples compared, lists of new lists. -/
namespace Z
open PySem PySem.Spec PyProof.Rows L2 HT
/-! ### x[::-1] -/
section
variable {prog : Program} {w : World} {A : Around} {E : Value → Shared → Prop} {s : Shared}
end
section
variable {X : Cx}
def mRev (m : AE) : AE := fun ρ => do
  let (s, ρ1) ← m ρ
  match s.cell ρ1 with
  | some ⟨.tup l, _⟩ => R.ok (.v (Cell.fz (.tup l.reverse)), ρ1)
  | some ⟨.lst l, k⟩ => if k ≤ 1 then R.ok (.v ⟨.lst l.reverse, 1⟩, ρ1) else R.bad
  | _ => R.bad
@[simp] theorem mRev_ap {m : AE} {ρ : Env} : mRev m ρ = (do
  let (s, ρ1) ← m ρ
  match s.cell ρ1 with
  | some ⟨.tup l, _⟩ => R.ok (.v (Cell.fz (.tup l.reverse)), ρ1)
  | some ⟨.lst l, k⟩ => if k ≤ 1 then R.ok (.v ⟨.lst l.reverse, 1⟩, ρ1) else R.bad
  | _ => R.bad) := rfl
/-! ### tuples of ints compared -/
def lexB : List Int → List Int → Bool
  | [], _ => true
  | _ :: _, [] => false
  | x :: xs, y :: ys => if x = y then lexB xs ys else decide (x ≤ y)
def fLeT : List Cell → R Cell
  | [⟨.tup l, _⟩, ⟨.tup m, _⟩] => match asInts l, asInts m with
    | some ns, some ms => .ok (Cell.fz (.bl (lexB ns ms)))
    | _, _ => .bad
  | _ => .bad
def fLeA : List Cell → R Cell
  | [⟨.tup l, k⟩, ⟨.tup m, k'⟩] => fLeT [⟨.tup l, k⟩, ⟨.tup m, k'⟩]
  | cs => fLe cs
@[simp] theorem leA_int {i j : Int} {k k' : Nat} : fLeA [⟨.int i, k⟩, ⟨.int j, k'⟩] = .ok ⟨.bl (decide (i ≤ j)), 0⟩ := rfl
@[simp] theorem leA_tup {ns ms : List Int} {k k' : Nat} : fLeA [⟨.tup (ns.map D.int), k⟩, ⟨.tup (ms.map D.int), k'⟩] = .ok ⟨.bl (lexB ns ms), 0⟩ := by
  unfold fLeA fLeT
  simp only [asInts_map]
  rfl
end
end Z

/-! ZR: [[..] for ..], to be changed. -/
namespace Z
open PySem PySem.Spec PyProof.Rows L2
section
variable {X : Cx}
def freshL : Src → Option (List D)
  | .v ⟨.lst l, 1⟩ => some l
  | _ => none
def loopO (it : ItD) (g : MG) (tt : MT) (me : AE) (vs : List Nat) : List D → Env → R (List D × Env)
  | [], ρ => .ok ([], ρ)
  | d :: r, ρ => do
    let ρa ← g d [] ρ
    let (b, ρb) ← tt ρa
    if b then do
      let (s, ρc) ← me ρb
      if (freshL s).isSome && chkOk it (wipeE ρc vs) then do
        let (acc, ρe) ← loopO it g tt me vs r (wipeE ρc vs)
        R.ok (.lst ((freshL s).getD []) :: acc, ρe)
      else R.bad
    else if chkOk it (wipeE ρb vs) then loopO it g tt me vs r (wipeE ρb vs) else R.bad
def mCompO (mi : MI) (g : MG) (tt : MT) (me : AE) (vs : List Nat) : AE := fun ρ => do
  let (it, ρ1) ← mi ρ
  if ownOk ρ1 vs && decide (it.items.length ≤ 16777216) && chkOk it (wipeE ρ1 vs) then do
    let (acc, ρ2) ← loopO it g tt me vs it.items (wipeE ρ1 vs)
    R.ok (.v ⟨.lst acc, 2⟩, restore ρ2 ρ1 vs)
  else R.bad
@[simp] theorem mCompO_ap {mi : MI} {g : MG} {tt : MT} {me : AE} {vs : List Nat} {ρ : Env} : mCompO mi g tt me vs ρ = (do
  let (it, ρ1) ← mi ρ
  if ownOk ρ1 vs && decide (it.items.length ≤ 16777216) && chkOk it (wipeE ρ1 vs) then do
    let (acc, ρ2) ← loopO it g tt me vs it.items (wipeE ρ1 vs)
    R.ok (.v ⟨.lst acc, 2⟩, restore ρ2 ρ1 vs)
  else R.bad) := rfl
end
end Z

/-! ZT: the empty dict; dicts at values. -/
namespace Z
open PySem PySem.Spec PyProof.Rows L2
def mDct0 : AE := fun ρ => R.ok (.v ⟨.dct [] [], 1⟩, ρ)
@[simp] theorem mDct0_ap {ρ : Env} : mDct0 ρ = R.ok (.v ⟨.dct [] [], 1⟩, ρ) := rfl
theorem sa_dct0 {X : Cx} {pos : Pos} : SA X (.Dict [] [] pos) mDct0 := by
  refine ⟨_, pe_dnewK, fun n σ H w ρ s ρ' Q ok hm k => ?_⟩
  cases hm
  intro p hp
  exact k _ _ (w.put p (.tm n)) (ok.new hp _) (Step.new hp) (.dct upd_same OM.put_same rfl .nil)
/-- the value at a key, values being told by the keys -/
theorem dGet_map {α : Type} {l : List α} {g f : α → D} {x : α} (hx : x ∈ l) (hg : ∀ y ∈ l, g y = g x → f y = f x) : dGet (l.map g) (l.map f) (g x) = some (f x) := by
  induction l with
  | nil => cases hx
  | cons y r ih =>
    rw [List.map_cons, List.map_cons, dGet]
    by_cases e : g y = g x
    · rw [if_pos e, hg y (List.mem_cons_self ..) e]
    · rw [if_neg e]
      rcases List.mem_cons.mp hx with rfl | hx
      · exact absurd rfl e
      · exact ih hx fun z hz => hg z (List.mem_cons_of_mem _ hz)
theorem dPutK_new {ks : List D} {q : D} (h : q ∉ ks) : dPutK ks q = ks ++ [q] := if_neg h
theorem dPutV_new {α : Type} {ks : List D} {ds : List α} {q : D} {v : α} (h : q ∉ ks) : dPutV ks ds q v = ds ++ [v] := if_neg h
theorem putOk_s {ks : List D} {q : D} (h1 : q.sk = true) (h2 : ks.all D.sk = true) (h3 : ks.length < 16777216) : putOk q ks = true := by
  unfold putOk
  rw [h1, h2, decide_eq_true h3]
  simp
theorem ixDs {ks ds : List D} {q d : D} {k k' : Nat} (h1 : q.sk = true) (h2 : ks.all D.sk = true) (h3 : dGet ks ds q = some d) : fIx [⟨.dct ks ds, k⟩, ⟨q, k'⟩] = .ok ⟨d, 0⟩ := by
  show (if q.tk then _ else fIxD [⟨.dct ks ds, k⟩, ⟨q, k'⟩]) = _
  rw [if_neg (by rw [sk_tk h1]; decide)]
  obtain ⟨z, hz⟩ := keyD_sk h1
  unfold fIxD
  simp only [hz, h2, h3, if_true]
  rfl
end Z

/-! ZU: `is True`, `is False`. -/
namespace Z
open PySem PySem.Spec PyProof.Rows L2
def isBlD (b : Bool) : D → Bool
  | .bl a => a == b
  | _ => false
def fIsB : List Cell → R Cell
  | [c, ⟨.bl b, _⟩] => .ok (Cell.fz (.bl (isBlD b c.d)))
  | _ => .bad
def fNotB : List Cell → R Cell
  | [c, ⟨.bl b, _⟩] => .ok (Cell.fz (.bl (!isBlD b c.d)))
  | _ => .bad
section
variable {X : Cx}
end
@[simp] theorem isB_bl {a b : Bool} {k k' : Nat} : fIsB [⟨.bl a, k⟩, ⟨.bl b, k'⟩] = .ok ⟨.bl (a == b), 0⟩ := rfl
@[simp] theorem notB_bl {a b : Bool} {k k' : Nat} : fNotB [⟨.bl a, k⟩, ⟨.bl b, k'⟩] = .ok ⟨.bl (!(a == b)), 0⟩ := rfl
end Z

/-! ZV: list.insert. -/
namespace Z
open PySem PySem.Spec PyProof.Rows L2
section
variable {X : Cx}
end
end Z

/-! ZW: sorted(set(list of ints)). -/
namespace Z
open PySem PySem.Spec PyProof.Rows L2
section
variable {P : Program} {w : World} {A : Around} {E : Value → Shared → Prop} {s : Shared}
/-- a set without members -/
abbrev noSet (w : World) : Obj := { cls := .type "set", dict := none, data := .set #[] 0 (.fresh 0 0 (!w.params.followText "set-order")) }
/-- what filling the set at S with the ints ns leaves -/
def Filled (w : World) (s : Shared) (S : Addr) (ns : List Int) (s' : Shared) : Prop :=
  ∃ (h' : Heap) (tk c : Nat), s' = { s with heap := h', toks := tk } ∧ SetR w h' S (fun j => decide (j ∈ ns)) c ∧ c ≤ ns.length ∧ ∀ b o, b ≠ S → s.heap.get? b = some o → h'.get? b = some o
/-- the new set takes the members of a list -/
theorem fill_list {S l : Addr} {items : Array Value} {ns : List Int} (hh : A.handled = none) (hS : s.heap.get? S = some (noSet w)) (hl : s.heap.IsList l items) (hi : IntsAre items.toList ns) (hb : ns.length + 1 < scanBound) :
    wpAny (model P w) A (Builtin.«set.__init__» ⟨[.ref S, .ref l], []⟩) (fun fl s' => fl = PySem.Fin.done (Flow.ret Value.none) ∧ Filled w s S ns s') E s := by
  have hn : items.size = ns.length := by rw [← Array.length_toList]; exact IntsAre.length hi
  have hl0 := hl
  obtain ⟨⟨cl, di, da, sl⟩, e, e1, m, e2⟩ := hl0
  dsimp only at e1 e2
  subst e1
  subst e2
  have h1 := F.sub_list_set
  have h2 := F.sub_list_frozenset
  have h3 : (Value.type "list" == Value.type "dict") = false := by decide
  have hlS : l ≠ S := fun z => by
    rw [z, hS] at e
    have q := congrArg Obj.cls (Option.some.inj e)
    exact absurd (show Value.type "set" = Value.type "list" from q) (by decide)
  have lt1 := Heap.lt_size hS
  have lt2 := Heap.lt_size e
  unfold Builtin.«set.__init__» Builtin.Frozenset.updateFrom noKeywords
  generalize hP : pyIter = PI
  wp_walk
  subst hP
  refine wpAny_pyIter_list hl (wpAny_bind (wpAny_runValue ?_))
  have hf : S ∉ [s.heap.objs.size, l] := fun z => by
    rcases List.mem_cons.mp z with z | z
    · exact absurd z (Nat.ne_of_lt lt1)
    · exact hlS (List.mem_singleton.mp z).symm
  refine set_update_ints ((Walks.list (by simp [hh]) _ l (Nat.ne_of_lt lt2) items).toS) S hf ns hn hb (fun i v hv => ?_) (items.size - 0) 0 _ (by omega) (Nat.zero_le _) ⟨⟨_, Heap.get?_push_size _ rfl, rfl, rfl⟩, hl.push _⟩ ⟨0, Nat.le_refl 0, setR_new_at (Heap.get?_push_of_some _ hS)⟩ fun s' c hm hc hR => ?_
  · obtain ⟨t, ev⟩ := PyProof.Rows.IntsAre.int_at hi i v (by rw [Array.getElem?_toList]; exact hv)
    have hlt : i < ns.length := by rw [← hn]; exact (Array.getElem?_eq_some_iff.mp hv).1
    exact ⟨ns[i], t, List.getElem?_eq_getElem hlt, by rw [ev, List.getD_eq_getElem?_getD, List.getElem?_eq_getElem hlt]; rfl⟩
  · obtain ⟨h', g, d, tk, os⟩ := s'
    have q1 : g = s.gens := hm.gens
    have q2 : d = s.drawn := hm.drawn
    have q3 : os = s.os := hm.os
    subst q1
    subst q2
    subst q3
    refine wpAny_pure ?_
    show wpAny _ _ (ret Value.none) _ _ _
    refine wpAny_pure ⟨rfl, h', tk, c, rfl, hR, by rw [← hn]; exact hc, fun b o hbS eb => ?_⟩
    have lt3 := Heap.lt_size eb
    refine hm.heap b o (fun z => ?_) (Heap.get?_push_of_some _ eb)
    rcases List.mem_cons.mp z with z | z
    · exact hbS z
    · exact absurd (List.mem_singleton.mp z) (Nat.ne_of_lt lt3)
/-- set(list of ints) -/
theorem set_list {l : Addr} {items : Array Value} {ns : List Int} {Q : Value → Shared → Prop} (hh : A.handled = none) (hl : s.heap.IsList l items) (hi : IntsAre items.toList ns) (hb : ns.length + 1 < scanBound)
    (fin : ∀ (g : Heap) (t n : Nat), SetR w g s.heap.objs.size (fun z => decide (z ∈ ns)) n → n ≤ ns.length → (∀ a u, s.heap.get? a = some u → g.get? a = some u) → Q (.ref s.heap.objs.size) { s with heap := g, toks := t }) : wpAny (model P w) A (call (.type "set") [.ref l]) Q E s := by
  obtain ⟨_, _, _⟩ := F.called_set.mro
  have z1 := F.called_set.made
  have z2 := F.called_set.sub
  have z3 := F.called_set.notType
  have z4 := F.called_set.canCreate
  have z5 := F.typeCall_set_1 (.ref l)
  have hS : (s.heap.push (noSet w)).get? s.heap.objs.size = some (noSet w) := Heap.get?_push_size _ rfl
  refine wpAny_call (codeAny_of_tree (show wpAny _ _ (callAny (.type "set") _) _ _ _ from wpAny_pure ⟨Code.quiet_builtin _ (by decide +kernel), codeAny_builtin F.entry_type_call ?_⟩))
  rw [Around.under_plain (weight_type_call_type "set" [.ref l] []) rfl]
  repeat any_goals first | assumption | wp_step
  refine codeAny_mono (code_set_led1 (.ref l) (E := E) (Q₁ := fun o s1 => o = .ref s.heap.objs.size ∧ s1 = { s with heap := s.heap.push (noSet w) }) ⟨rfl, rfl⟩) fun r s1 hr => ?_
  match r, hr with
  | .error _, hr => exact hr
  | .ok (.ret o), ⟨e1, e2⟩ =>
    subst e1
    subst e2
    have z6 := F.called_set.init.lookup
    have z7 := F.called_set.init.bind (.ref s.heap.objs.size)
    repeat any_goals first | assumption | wp_step
    refine codeAny_mono (codeAny_call_builtin (R := wants (fun r s2 => r = .none ∧ Filled w { s with heap := s.heap.push (noSet w) } s.heap.objs.size ns s2) E) F.called_set.init.plain F.entry_set_init (check_set_init_1 ⟨_, hS, rfl⟩ ?_)) fun r s2 hr => ?_
    · exact wpAny_mono (fill_list (by simp [hh]) hS (hl.push _) hi hb) (fun fl s' ⟨e1, e2⟩ => by rw [e1]; exact ⟨rfl, e2⟩) fun _ _ q => q
    · match r, hr with
      | .error _, hr => exact hr
      | .ok (.ret r), ⟨e1, h', tk, c, e2, hR, hc, hk⟩ =>
        subst e1
        subst e2
        repeat any_goals first | assumption | wp_step
        exact fin _ _ _ hR hc fun b o e => hk b o (Nat.ne_of_lt (Heap.lt_size e)) (Heap.get?_push_of_some _ e)
end
/-! ### as rules -/
def rSetL (X : Cx) : List V → Hp → VK → Prop := fun vs H Q => ∃ (a : Addr) (ns : List Int), vs = [.ref a] ∧ SqL X.K H a (ns.map V.int) ∧ ns.length < 64 ∧
  ∀ (p : Addr) (S : Int → Bool) (n : Nat), H p = none → (∀ k, S k = true ↔ k ∈ ns) → n < 64 → Q (.ref p) (upd H p (SetO X.w p S n))
section
variable {X : Cx}
/-- the members, each once -/
def dd : List Int → List Int
  | [] => []
  | a :: l => if a ∈ l then dd l else a :: dd l
end
end Z

/-! ZX: sorted of a dict whose keys are integers. -/
namespace Z
open PySem PySem.Spec PyProof.Rows L2
def fSortDI : List Cell → R Cell := fun cs => match cs with
  | [⟨.dct ks _, _⟩] => match asInts ks with
    | some ns => if ns.length < 64 then .ok ⟨.lst ((isort ns).map D.int), 1⟩ else .bad
    | none => .bad
  | _ => .bad
theorem kd_ints : ∀ {kvs : List (Key × V)} {ns : List Int}, (kvs.map fun p => kD p.1) = ns.map D.int → kvs.map (·.1) = ns.map Sum.inl
  | [], [], _ => rfl
  | [], _ :: _, h => by cases h
  | _ :: _, [], h => by cases h
  | ⟨k, v⟩ :: kvs, n :: ns, h => by
    rw [List.map_cons, List.map_cons] at h
    obtain ⟨h1, h2⟩ := List.cons.inj h
    rw [List.map_cons, List.map_cons, kd_ints h2]
    cases k with
    | inl i => cases h1; rfl
    | inr s => cases h1
theorem s_sortDI {X : Cx} : CallS X (fun xs H Q => ∃ (a : Addr) (kvs : List (Key × V)) (ks : List Int), xs = [.ref a] ∧ Rd H a (.dK kvs) ∧ kvs.map (·.1) = ks.map Sum.inl ∧ ks.length < 64 ∧
    ∀ (ys : List Int) (p : Addr), ys.Perm ks → ys.Pairwise (· ≤ ·) → H p = none → Q (.ref p) (upd H p (.lst (ys.map V.int)))) fSortDI := by
  intro n H w σ ρ cs vs c Q ok ow e k
  unfold fSortDI at e
  split at e
  · rename_i ks ds kk
    split at e
    · rename_i ns hn
      split at e
      · rename_i h64
        cases e
        obtain ⟨v, o, rfl, h1⟩ := ow.one
        have hks := asInts_eq hn
        have hsk : ks.all D.sk = true := by
          rw [hks, List.all_eq_true]
          intro d hd
          obtain ⟨i, _, rfl⟩ := List.mem_map.mp hd
          rfl
        obtain ⟨a, kvs, rfl, ha, hk, fa⟩ := ow_dctS hsk h1
        refine ⟨a, kvs, ns, rfl, ha, kd_ints (hk.trans hks), h64, fun ys p hp hs hq => ?_⟩
        have := isort_uniq hp hs
        subst this
        exact k _ _ (w.put p (.tm n)) (ok.new hq _) (Step.new hq) (.lst upd_same OM.put_same ((fz_ints _).step (Kp.new hq .no)))
      · cases e
    · cases e
  · cases e
theorem f_sortDI {ks : List Int} {ds : List D} {k : Nat} (h : ks.length < 64) : fSortDI [⟨.dct (ks.map D.int) ds, k⟩] = .ok ⟨.lst ((isort ks).map D.int), 1⟩ := by
  unfold fSortDI
  simp only [asInts_map, if_pos h]
end Z

namespace S
open Z PySem PySem.Spec PyProof.Rows
def b_best_left_1 : MS := (mSeq (mIf (mTest (mPrim (fIn false) [(aVar 2), (aVar 1)])) (mSeq (mRet (aVar 2)) mNext) mNext) mNext)
def m_best_left : MS := (mSeq (mFor (mItems (aVar 0)) (gN 2) b_best_left_1) (mSeq (mRet (aC (.int (-1)))) mNext))
def c_best_left : FD := runDef 3 m_best_left
def b_pointers_1 : MS := (mSeq (mSetIx 2 (aVar 3) (mCall c_best_left [(mPrim fIx [(aVar 0), (aVar 3)]), (aVar 1)])) mNext)
def m_pointers : MS := (mSeq (mSet 2 mDct0) (mSeq (mFor (mItems (aVar 1)) (gN 3) b_pointers_1) (mSeq (mRet (aVar 2)) mNext)))
def c_pointers : FD := runDef 4 m_pointers
def b_is_on_ring_1 : MS := (mSeq (mSet 2 (mPrim fIx [(aVar 0), (aVar 2)])) (mSeq (mIf (mTest (mPrim fEq [(aVar 2), (aVar 1)])) (mSeq (mRet (aC (.bl true))) mNext) mNext) mNext))
def m_is_on_ring : MS := (mSeq (mSet 2 (aFz 1)) (mSeq (mFor (mRange1 (mPrim fLen [(aVar 0)])) (gN 3) b_is_on_ring_1) (mSeq (mRet (aC (.bl false))) mNext)))
def c_is_on_ring : FD := runDef 4 m_is_on_ring
def t_ring_members_1 : MT := (mTest (mCall c_is_on_ring [(aVar 0), (aVar 1)]))
def e_ring_members_2 : AE := (aVar 1)
def m_ring_members : MS := (mSeq (mRet (mComp (mItems (mPrim fSortDI [(aVar 0)])) (gN 1) t_ring_members_1 e_ring_members_2 [1])) mNext)
def c_ring_members : FD := runDef 2 m_ring_members
def e_trades_giving_1 : AE := (aC (.int (-1)))
def b_trades_giving_2 : MS := (mSeq (mSetIx 1 (aVar 7) (mPrim fIx [(aVar 5), (aVar 7)])) mNext)
def t_trades_giving_3 : MT := (mTest (mPrim (fIn true) [(aVar 7), (aVar 6)]))
def e_trades_giving_4 : AE := (aVar 7)
def b_trades_giving_5 : MS := (mSeq (mSet 5 (mCall c_pointers [(aVar 0), (aVar 3)])) (mSeq (mSet 6 (mCall c_ring_members [(aVar 5)])) (mSeq (mFor (mItems (aVar 6)) (gN 7) b_trades_giving_2) (mSeq (mSet 3 (mComp (mItems (aVar 3)) (gN 7) t_trades_giving_3 e_trades_giving_4 [7])) mNext))))
def m_trades_giving : MS := (mSeq (mSet 1 (mComp (mItems (aVar 0)) (gN 2) mYes e_trades_giving_1 [2])) (mSeq (mSet 3 (mListRg (mRg1 (mPrim fLen [(aVar 0)])))) (mSeq (mFor (mRange1 (mPrim fLen [(aVar 0)])) (gN 4) b_trades_giving_5) (mSeq (mRet (mPrim fTuple [(aVar 1)])) mNext))))
def c_trades_giving : FD := runDef 8 m_trades_giving
def e__law_begin_1 : AE := (mPrim fInt [(aVar 1)])
def m__law_begin : MS := (mSeq (mRet (mLst [(mComp (mItems (aVar 0)) (gN 1) mYes e__law_begin_1 [1]), (aC (.int 0)), (aC (.int 0)), (aC (.int 7))])) mNext)
def c__law_begin : FD := runDef 2 m__law_begin
def m__law_draw : MS := (mSeq (mIf (mTest (mPrim fGt [(mPrim fIx [(aVar 0), (aC (.int 2))]), (aC (.int 0))])) (mSeq (mSet 2 (mPrim fIx [(aVar 0), (aC (.int 2))])) (mSeq (mSetIx 0 (aC (.int 2)) (mPrim fDiv [(aVar 2), (aVar 1)])) (mSeq (mRet (mPrim fMod [(mPrim fInt [(aVar 2)]), (aVar 1)])) mNext))) mNext) (mSeq (mSet 3 (aC (.int 0))) (mSeq (mIf (mTest (mPrim fLt [(mPrim fIx [(aVar 0), (aC (.int 1))]), (mPrim fLen [(mPrim fIx [(aVar 0), (aC (.int 0))])])])) (mSeq (mSet 4 (mPrim fIx [(mPrim fIx [(aVar 0), (aC (.int 0))]), (mPrim fIx [(aVar 0), (aC (.int 1))])])) (mSeq (mSet 3 (mPrim fAdd [(mPrim fMul [(aC (.int 2)), (mPrim fAbs [(aVar 4)])]), (mPrim fInt [(mPrim fLt [(aVar 4), (aC (.int 0))])])])) mNext)) mNext) (mSeq (mAugIx 0 (aC (.int 1)) fIAdd (aC (.int 1))) (mSeq (mIf (mTest (mPrim fGe [(aVar 3), (mPrim fMul [(aC (.int 2)), (mPrim fPow [(aC (.int 10)), (aC (.int 18))])])])) (mSeq (mSet 2 (mPrim fMod [(mPrim fInt [(mPrim fDiv [(aVar 3), (aC (.int 2))])]), (mPrim fShl [(aC (.int 1)), (aC (.int 6000))])])) (mSeq (mSetIx 0 (aC (.int 2)) (mPrim fDiv [(aVar 2), (aVar 1)])) (mSeq (mRet (mPrim fMod [(mPrim fInt [(aVar 2)]), (aVar 1)])) mNext))) mNext) (mSeq (mSetIx 0 (aC (.int 3)) (mPrim fMod [(mPrim fInt [(mPrim fAdd [(mPrim fAdd [(mPrim fAdd [(mPrim fMul [(mPrim fIx [(aVar 0), (aC (.int 3))]), (aC (.int 48271))]), (mPrim fMul [(mPrim fMod [(mPrim fInt [(aVar 3)]), (aC (.int 2147483629))]), (aC (.int 16807))])]), (mPrim fMul [(mPrim fIx [(aVar 0), (aC (.int 1))]), (aC (.int 69621))])]), (aC (.int 11))])]), (aC (.int 2147483647))])) (mSeq (mRet (mPrim fMod [(mPrim fInt [(mPrim fDiv [(mPrim fIx [(aVar 0), (aC (.int 3))]), (aC (.int 16))])]), (aVar 1)])) mNext)))))))
def c__law_draw : FD := runDef 5 m__law_draw
def m__law_pick : MS := (mSeq (mRet (mPrim fIx [(aVar 1), (mCall c__law_draw [(aVar 0), (mPrim fLen [(aVar 1)])])])) mNext)
def c__law_pick : FD := runDef 2 m__law_pick
def b__law_shuffled_1 : MS := (mSeq (mExpr (mMeth 3 fAppend [(mMeth 2 fPop1 [(mCall c__law_draw [(aVar 0), (mPrim fLen [(aVar 2)])])])])) mNext)
def m__law_shuffled : MS := (mSeq (mSet 2 (mPrim fList [(aVar 1)])) (mSeq (mSet 3 (mLst [])) (mSeq (mFor (mRange1 (mPrim fLen [(aVar 2)])) (gN 4) b__law_shuffled_1) (mSeq (mRet (aVar 3)) mNext))))
def c__law_shuffled : FD := runDef 5 m__law_shuffled
def m__law_is_int : MS := (mSeq (mRet (mAndV (mPrim (fIsi "int") [(aVar 0)]) (mNotV (mPrim (fIsi "bool") [(aVar 0)])))) mNext)
def c__law_is_int : FD := runDef 1 m__law_is_int
def e__law_is_ints_1 : AE := (mCall c__law_is_int [(aVar 1)])
def m__law_is_ints : MS := (mSeq (mRet (mAndV (mPrim (fIsi "tuple") [(aVar 0)]) (mPrim fAll [(mComp (mItems (aVar 0)) (gN 1) mYes e__law_is_ints_1 [1])]))) mNext)
def c__law_is_ints : FD := runDef 2 m__law_is_ints
def m__law_listing : MS := (mSeq (mRet (mPrim fTuple [(mCall c__law_shuffled [(aVar 0), (mListRg (mRg1 (aVar 1)))])])) mNext)
def c__law_listing : FD := runDef 2 m__law_listing
def e__law_listings_k17_1 : AE := (mCall c__law_pick [(aVar 0), (aVar 2)])
def e__law_listings_k17_2 : AE := (mCall c__law_listing [(aVar 0), (aVar 1)])
def m__law_listings_k17 : MS := (mSeq (mIf (mTest (mPrim fEq [(mCall c__law_draw [(aVar 0), (aC (.int 3))]), (aC (.int 1))])) (mSeq (mSet 2 (mLst [(mCall c__law_listing [(aVar 0), (aVar 1)]), (mCall c__law_listing [(aVar 0), (aVar 1)])])) (mSeq (mRet (mPrim fTuple [(mComp (mRange1 (aVar 1)) (gN 3) mYes e__law_listings_k17_1 [3])])) mNext)) mNext) (mSeq (mRet (mPrim fTuple [(mComp (mRange1 (aVar 1)) (gN 3) mYes e__law_listings_k17_2 [3])])) mNext))
def c__law_listings_k17 : FD := runDef 4 m__law_listings_k17
def t__law_best_1 : MT := (mTest (mPrim (fIn false) [(aVar 2), (aVar 1)]))
def e__law_best_2 : AE := (aVar 2)
def m__law_best : MS := (mSeq (mRet (mPrim fIx [(mComp (mItems (aVar 0)) (gN 2) t__law_best_1 e__law_best_2 [2]), (aC (.int 0))])) mNext)
def c__law_best : FD := runDef 3 m__law_best
def e__law_rings_1 : AE := (mPrim fNeg [(aC (.int 1))])
def b__law_rings_2 : MS := (mSeq (mSet 5 (mCall c__law_best [(mPrim fIx [(aVar 0), (aVar 5)]), (aVar 3)])) mNext)
def b__law_rings_3 : MS := (mSeq (mSet 8 (mCall c__law_best [(mPrim fIx [(aVar 0), (mPrim fIx [(aVar 7), (mPrim fNeg [(aC (.int 1))])])]), (aVar 3)])) (mSeq (mIf (mTest (mPrim (fIn true) [(aVar 8), (aVar 7)])) (mSeq (mExpr (mMeth 7 fAppend [(aVar 8)])) mNext) mNext) mNext))
def b__law_rings_4 : MS := (mSeq (mSetIx 1 (aVar 9) (mCall c__law_best [(mPrim fIx [(aVar 0), (aVar 9)]), (aVar 3)])) mNext)
def t__law_rings_5 : MT := (mTest (mPrim (fIn true) [(aVar 9), (aVar 7)]))
def e__law_rings_6 : AE := (aVar 9)
def b__law_rings_7 : MS := (mSeq (mIf (mTest (aVar 3)) (mSeq (mSet 5 (mPrim fIx [(aVar 3), (aC (.int 0))])) (mSeq (mFor (mRange1 (mPrim fLen [(aVar 0)])) (gN 6) b__law_rings_2) (mSeq (mSet 7 (mLst [(aVar 5)])) (mSeq (mFor (mRange1 (mPrim fLen [(aVar 0)])) (gN 6) b__law_rings_3) (mSeq (mFor (mItems (aVar 7)) (gN 9) b__law_rings_4) (mSeq (mSet 3 (mComp (mItems (aVar 3)) (gN 9) t__law_rings_5 e__law_rings_6 [9])) mNext)))))) mNext) mNext)
def m__law_rings : MS := (mSeq (mSet 1 (mComp (mItems (aVar 0)) (gN 2) mYes e__law_rings_1 [2])) (mSeq (mSet 3 (mListRg (mRg1 (mPrim fLen [(aVar 0)])))) (mSeq (mFor (mRange1 (mPrim fLen [(aVar 0)])) (gN 4) b__law_rings_7) (mSeq (mRet (mPrim fTuple [(aVar 1)])) mNext))))
def c__law_rings : FD := runDef 10 m__law_rings
def t__law_arranged_1 : MT := (mTest (mPrim (fIn true) [(aVar 5), (aVar 4)]))
def e__law_arranged_2 : AE := (mPrim fAdd [(aVar 4), (mTup [(aVar 5)])])
def b__law_arranged_3 : MS := (mSeq (mExpr (mMeth 3 fExtend [(mComp (mItems (aVar 0)) (gN 5) t__law_arranged_1 e__law_arranged_2 [5])])) mNext)
def b__law_arranged_4 : MS := (mSeq (mSet 3 (mLst [])) (mSeq (mFor (mItems (aVar 1)) (gN 4) b__law_arranged_3) (mSeq (mSet 1 (aVar 3)) mNext)))
def m__law_arranged : MS := (mSeq (mSet 1 (mLst [(mTup [])])) (mSeq (mFor (mRange1 (mPrim fLen [(aVar 0)])) (gN 2) b__law_arranged_4) (mSeq (mRet (aVar 1)) mNext)))
def c__law_arranged : FD := runDef 6 m__law_arranged
def t__law_groups_1 : MT := (mTest (mPrim fBand [(mPrim fShr [(aVar 2), (aVar 4)]), (aC (.int 1))]))
def e__law_groups_2 : AE := (aVar 4)
def e__law_groups_3 : AE := (mTup [(aVar 3), (aVar 5)])
def b__law_groups_4 : MS := (mSeq (mSet 3 (mComp (mRange1 (aVar 0)) (gN 4) t__law_groups_1 e__law_groups_2 [4])) (mSeq (mExpr (mMeth 1 fExtend [(mComp (mItems (mCall c__law_arranged [(aVar 3)])) (gN 5) mYes e__law_groups_3 [5])])) mNext))
def m__law_groups : MS := (mSeq (mSet 1 (mLst [])) (mSeq (mFor (mRange2 (aC (.int 1)) (mPrim fShl [(aC (.int 1)), (aVar 0)])) (gN 2) b__law_groups_4) (mSeq (mRet (aVar 1)) mNext)))
def c__law_groups : FD := runDef 6 m__law_groups
def e__law_is_bettered_1 : AE := (mPrim fSub [(mPrim fIx [(mPrim fIx [(aVar 0), (mPrim fIx [(aVar 3), (aVar 6)])]), (mPrim fIx [(aVar 2), (mPrim fIx [(aVar 3), (aVar 6)])])]), (mPrim fIx [(mPrim fIx [(aVar 0), (mPrim fIx [(aVar 3), (aVar 6)])]), (mPrim fIx [(aVar 4), (aVar 6)])])])
def b__law_is_bettered_2 : MS := (mSeq (mSet 5 (mComp (mRange1 (mPrim fLen [(aVar 4)])) (gN 6) mYes e__law_is_bettered_1 [6])) (mSeq (mIf (mAndT (mTest (mPrim fGe [(mPrim fMin [(aVar 5)]), (aC (.int 0))])) (mTest (mPrim fGt [(mPrim fMax [(aVar 5)]), (aC (.int 0))]))) (mSeq (mRet (aC (.bl true))) mNext) mNext) mNext))
def m__law_is_bettered : MS := (mSeq (mFor (mItems (aVar 1)) (gT 2 (gsCons (gN 3) (gsCons (gN 4) gsNil))) b__law_is_bettered_2) (mSeq (mRet (aC (.bl false))) mNext))
def c__law_is_bettered : FD := runDef 7 m__law_is_bettered
def e_law_k17_1 : AE := (mIndex (aVar 8) (aVar 7))
def e_law_k17_2 : AE := (mComp (mRange1 (aVar 2)) (gN 7) mYes e_law_k17_1 [7])
def b_law_k17_3 : MS := (mSeq (mIf (mTest (mPrim fNe [(mCall c__law_is_bettered [(aVar 6), (aVar 9), (aVar 11)]), (mPrim fNe [(aVar 11), (aVar 5)])])) (mSeq (mRet (aC (.bl false))) mNext) mNext) mNext)
def b_law_k17_4 : MS := (mSeq (mSet 14 (mPrim fAdd [(mPrim fAdd [(mSl (aVar 3) none (some (aVar 12))), (mTup [(aVar 13)])]), (mSl (aVar 3) (some (mPrim fAdd [(aVar 12), (aC (.int 1))])) none)])) (mSeq (mSet 15 (mCall c_trades_giving [(aVar 14)])) (mSeq (mIf (mOrT (mNotT (mTest (mCall c__law_is_ints [(aVar 15)]))) (mTest (mPrim fNe [(aVar 15), (mCall c__law_rings [(aVar 14)])]))) (mSeq (mRet (aC (.bl false))) mNext) mNext) (mSeq (mIf (mTest (mPrim fLt [(mPrim fIx [(mPrim fIx [(aVar 6), (aVar 12)]), (mPrim fIx [(aVar 15), (aVar 12)])]), (mPrim fIx [(mPrim fIx [(aVar 6), (aVar 12)]), (mPrim fIx [(aVar 5), (aVar 12)])])])) (mSeq (mRet (aC (.bl false))) mNext) mNext) mNext))))
def m_law_k17 : MS := (mSeq (mSet 1 (mCall c__law_begin [(aVar 0)])) (mSeq (mSet 2 (mPrim fAdd [(aC (.int 1)), (mCall c__law_draw [(aVar 1), (aC (.int 4))])])) (mSeq (mSet 3 (mCall c__law_listings_k17 [(aVar 1), (aVar 2)])) (mSeq (mSet 4 (mCall c__law_rings [(aVar 3)])) (mSeq (mSet 5 (mCall c_trades_giving [(aVar 3)])) (mSeq (mIf (mOrT (mNotT (mTest (mCall c__law_is_ints [(aVar 5)]))) (mTest (mPrim fNe [(aVar 5), (aVar 4)]))) (mSeq (mRet (aC (.bl false))) mNext) mNext) (mSeq (mSet 6 (mComp (mItems (aVar 3)) (gN 8) mYes e_law_k17_2 [8])) (mSeq (mSet 9 (mCall c__law_groups [(aVar 2)])) (mSeq (mSet 10 (mCall c__law_arranged [(mListRg (mRg1 (aVar 2)))])) (mSeq (mFor (mItems (aVar 10)) (gN 11) b_law_k17_3) (mSeq (mSet 12 (mCall c__law_draw [(aVar 1), (aVar 2)])) (mSeq (mFor (mItems (aVar 10)) (gN 13) b_law_k17_4) (mSeq (mSet 16 (mCall c_trades_giving [(aVar 3)])) (mSeq (mRet (mAndV (mCall c__law_is_ints [(aVar 16)]) (mPrim fEq [(aVar 16), (aVar 4)]))) mNext))))))))))))))
def c_law_k17 : FD := runDef 17 m_law_k17
def m__law_rare : MS := (mSeq (mRet (mPrim fEq [(mCall c__law_draw [(aVar 0), (aVar 1)]), (mPrim fDiv [(aVar 1), (aC (.int 2))])])) mNext)
def c__law_rare : FD := runDef 2 m__law_rare
def m_inner_conditions : MS := (mSeq (mIf (mTest (mPrim fEq [(mPrim fIx [(aVar 0), (aC (.int 0))]), (aC (.str "not"))])) (mSeq (mRet (mTup [(mPrim fIx [(aVar 0), (aC (.int 1))])])) mNext) mNext) (mSeq (mIf (mOrT (mTest (mPrim fEq [(mPrim fIx [(aVar 0), (aC (.int 0))]), (aC (.str "and"))])) (mTest (mPrim fEq [(mPrim fIx [(aVar 0), (aC (.int 0))]), (aC (.str "or"))]))) (mSeq (mRet (mTup [(mPrim fIx [(aVar 0), (aC (.int 1))]), (mPrim fIx [(aVar 0), (aC (.int 2))])])) mNext) mNext) (mSeq (mRet (mTup [])) mNext)))
def c_inner_conditions : FD := runDef 1 m_inner_conditions
def m_reaches : MS := (mSeq (mRet (mPrim fGe [(mPrim fIx [(aVar 1), (mPrim fIx [(aVar 0), (aC (.int 1))])]), (mPrim fIx [(aVar 0), (aC (.int 2))])])) mNext)
def c_reaches : FD := runDef 2 m_reaches
def m_holds_both (c_holds_both : FD) (c_holds_either : FD) (c_holds : FD) : MS := (mSeq (mAsg (gT 2 (gsCons (gN 2) (gsCons (gN 3) gsNil))) (mCall c_inner_conditions [(aVar 0)])) (mSeq (mRet (mAndV (mCall c_holds [(aVar 2), (aVar 1)]) (mCall c_holds [(aVar 3), (aVar 1)]))) mNext))
def m_holds_either (c_holds_both : FD) (c_holds_either : FD) (c_holds : FD) : MS := (mSeq (mAsg (gT 2 (gsCons (gN 2) (gsCons (gN 3) gsNil))) (mCall c_inner_conditions [(aVar 0)])) (mSeq (mRet (mOrV (mCall c_holds [(aVar 2), (aVar 1)]) (mCall c_holds [(aVar 3), (aVar 1)]))) mNext))
def m_holds (c_holds_both : FD) (c_holds_either : FD) (c_holds : FD) : MS := (mSeq (mSet 2 (mPrim fIx [(aVar 0), (aC (.int 0))])) (mSeq (mIf (mTest (mPrim fEq [(aVar 2), (aC (.str "all"))])) (mSeq (mRet (aC (.bl true))) mNext) mNext) (mSeq (mIf (mTest (mPrim fEq [(aVar 2), (aC (.str "least"))])) (mSeq (mRet (mCall c_reaches [(aVar 0), (aVar 1)])) mNext) mNext) (mSeq (mIf (mTest (mPrim fEq [(aVar 2), (aC (.str "not"))])) (mSeq (mRet (mNotV (mCall c_holds [(mPrim fIx [(aVar 0), (aC (.int 1))]), (aVar 1)]))) mNext) mNext) (mSeq (mIf (mTest (mPrim fEq [(aVar 2), (aC (.str "and"))])) (mSeq (mRet (mCall c_holds_both [(aVar 0), (aVar 1)])) mNext) mNext) (mSeq (mRet (mCall c_holds_either [(aVar 0), (aVar 1)])) mNext))))))
mutual
def c_holds_both : Nat → FD
  | 0 => fun _ => .bad
  | n + 1 => runDef 4 (m_holds_both (c_holds_both n) (c_holds_either n) (c_holds n))
def c_holds_either : Nat → FD
  | 0 => fun _ => .bad
  | n + 1 => runDef 4 (m_holds_either (c_holds_both n) (c_holds_either n) (c_holds n))
def c_holds : Nat → FD
  | 0 => fun _ => .bad
  | n + 1 => runDef 3 (m_holds (c_holds_both n) (c_holds_either n) (c_holds n))
end
end S

namespace P_k17
open Z PySem PySem.Spec PyProof.Rows L2 S
def top (i : Nat) : Stmt := PySem.Challenge.pw_plainhearing_k17_trades.main.body.getD i (.Pass ⟨0, 0, 0, 0⟩)
structure Fx (K : PySem.W.Frag) (mg : Str → Option Value) where
  a_best_left : Addr
  d_best_left : FuncData
  F_best_left : FunD K "best_left" "best_left" (defArgs (top 2)) (defBody (top 2)) (defScope (top 2)) [] [] a_best_left d_best_left
  g_best_left : mg "best_left" = some (.ref a_best_left)
  b_best_left : Binds K d_best_left ["ranking", "left"] []
  a_pointers : Addr
  d_pointers : FuncData
  F_pointers : FunD K "pointers" "pointers" (defArgs (top 4)) (defBody (top 4)) (defScope (top 4)) [] [] a_pointers d_pointers
  g_pointers : mg "pointers" = some (.ref a_pointers)
  b_pointers : Binds K d_pointers ["rankings", "left"] []
  a_is_on_ring : Addr
  d_is_on_ring : FuncData
  F_is_on_ring : FunD K "is_on_ring" "is_on_ring" (defArgs (top 5)) (defBody (top 5)) (defScope (top 5)) [] [] a_is_on_ring d_is_on_ring
  g_is_on_ring : mg "is_on_ring" = some (.ref a_is_on_ring)
  b_is_on_ring : Binds K d_is_on_ring ["points", "person"] []
  a_ring_members : Addr
  d_ring_members : FuncData
  F_ring_members : FunD K "ring_members" "ring_members" (defArgs (top 6)) (defBody (top 6)) (defScope (top 6)) [] [] a_ring_members d_ring_members
  g_ring_members : mg "ring_members" = some (.ref a_ring_members)
  b_ring_members : Binds K d_ring_members ["points"] []
  a_trades_giving : Addr
  d_trades_giving : FuncData
  F_trades_giving : FunD K "trades_giving" "trades_giving" (defArgs (top 7)) (defBody (top 7)) (defScope (top 7)) [] [] a_trades_giving d_trades_giving
  g_trades_giving : mg "trades_giving" = some (.ref a_trades_giving)
  b_trades_giving : Binds K d_trades_giving ["rankings"] []
  a__law_begin : Addr
  d__law_begin : FuncData
  F__law_begin : FunD K "_law_begin" "_law_begin" (defArgs (top 9)) (defBody (top 9)) (defScope (top 9)) [] [] a__law_begin d__law_begin
  g__law_begin : mg "_law_begin" = some (.ref a__law_begin)
  b__law_begin : Binds K d__law_begin ["script"] []
  a__law_draw : Addr
  d__law_draw : FuncData
  F__law_draw : FunD K "_law_draw" "_law_draw" (defArgs (top 10)) (defBody (top 10)) (defScope (top 10)) [] [] a__law_draw d__law_draw
  g__law_draw : mg "_law_draw" = some (.ref a__law_draw)
  b__law_draw : Binds K d__law_draw ["d", "many"] []
  a__law_pick : Addr
  d__law_pick : FuncData
  F__law_pick : FunD K "_law_pick" "_law_pick" (defArgs (top 11)) (defBody (top 11)) (defScope (top 11)) [] [] a__law_pick d__law_pick
  g__law_pick : mg "_law_pick" = some (.ref a__law_pick)
  b__law_pick : Binds K d__law_pick ["d", "row"] []
  a__law_shuffled : Addr
  d__law_shuffled : FuncData
  F__law_shuffled : FunD K "_law_shuffled" "_law_shuffled" (defArgs (top 12)) (defBody (top 12)) (defScope (top 12)) [] [] a__law_shuffled d__law_shuffled
  g__law_shuffled : mg "_law_shuffled" = some (.ref a__law_shuffled)
  b__law_shuffled : Binds K d__law_shuffled ["d", "row"] []
  a__law_is_int : Addr
  d__law_is_int : FuncData
  F__law_is_int : FunD K "_law_is_int" "_law_is_int" (defArgs (top 13)) (defBody (top 13)) (defScope (top 13)) [] [] a__law_is_int d__law_is_int
  g__law_is_int : mg "_law_is_int" = some (.ref a__law_is_int)
  b__law_is_int : Binds K d__law_is_int ["thing"] []
  a__law_is_ints : Addr
  d__law_is_ints : FuncData
  F__law_is_ints : FunD K "_law_is_ints" "_law_is_ints" (defArgs (top 14)) (defBody (top 14)) (defScope (top 14)) [] [] a__law_is_ints d__law_is_ints
  g__law_is_ints : mg "_law_is_ints" = some (.ref a__law_is_ints)
  b__law_is_ints : Binds K d__law_is_ints ["row"] []
  a__law_listing : Addr
  d__law_listing : FuncData
  F__law_listing : FunD K "_law_listing" "_law_listing" (defArgs (top 15)) (defBody (top 15)) (defScope (top 15)) [] [] a__law_listing d__law_listing
  g__law_listing : mg "_law_listing" = some (.ref a__law_listing)
  b__law_listing : Binds K d__law_listing ["d", "many"] []
  a__law_listings : Addr
  d__law_listings : FuncData
  F__law_listings : FunD K "_law_listings" "_law_listings" (defArgs (top 16)) (defBody (top 16)) (defScope (top 16)) [] [] a__law_listings d__law_listings
  g__law_listings : mg "_law_listings" = some (.ref a__law_listings)
  b__law_listings : Binds K d__law_listings ["d", "many"] []
  a__law_best : Addr
  d__law_best : FuncData
  F__law_best : FunD K "_law_best" "_law_best" (defArgs (top 17)) (defBody (top 17)) (defScope (top 17)) [] [] a__law_best d__law_best
  g__law_best : mg "_law_best" = some (.ref a__law_best)
  b__law_best : Binds K d__law_best ["ranking", "left"] []
  a__law_rings : Addr
  d__law_rings : FuncData
  F__law_rings : FunD K "_law_rings" "_law_rings" (defArgs (top 18)) (defBody (top 18)) (defScope (top 18)) [] [] a__law_rings d__law_rings
  g__law_rings : mg "_law_rings" = some (.ref a__law_rings)
  b__law_rings : Binds K d__law_rings ["rankings"] []
  a__law_arranged : Addr
  d__law_arranged : FuncData
  F__law_arranged : FunD K "_law_arranged" "_law_arranged" (defArgs (top 19)) (defBody (top 19)) (defScope (top 19)) [] [] a__law_arranged d__law_arranged
  g__law_arranged : mg "_law_arranged" = some (.ref a__law_arranged)
  b__law_arranged : Binds K d__law_arranged ["things"] []
  a__law_groups : Addr
  d__law_groups : FuncData
  F__law_groups : FunD K "_law_groups" "_law_groups" (defArgs (top 20)) (defBody (top 20)) (defScope (top 20)) [] [] a__law_groups d__law_groups
  g__law_groups : mg "_law_groups" = some (.ref a__law_groups)
  b__law_groups : Binds K d__law_groups ["many"] []
  a__law_is_bettered : Addr
  d__law_is_bettered : FuncData
  F__law_is_bettered : FunD K "_law_is_bettered" "_law_is_bettered" (defArgs (top 21)) (defBody (top 21)) (defScope (top 21)) [] [] a__law_is_bettered d__law_is_bettered
  g__law_is_bettered : mg "_law_is_bettered" = some (.ref a__law_is_bettered)
  b__law_is_bettered : Binds K d__law_is_bettered ["spots", "groups", "giving"] []
  a_law : Addr
  d_law : FuncData
  F_law : FunD K "law" "law" (defArgs (top 22)) (defBody (top 22)) (defScope (top 22)) [] [] a_law d_law
  g_law : mg "law" = some (.ref a_law)
  b_law : Binds K d_law ["script"] []
  n_abs : mg "abs" = none
  n_all : mg "all" = none
  n_bool : mg "bool" = none
  n_int : mg "int" = none
  n_isinstance : mg "isinstance" = none
  n_len : mg "len" = none
  n_list : mg "list" = none
  n_max : mg "max" = none
  n_min : mg "min" = none
  n_range : mg "range" = none
  n_sorted : mg "sorted" = none
  n_tuple : mg "tuple" = none
  k_NOTHING : ∃ t, mg "NOTHING" = some (.int (-1) t)
section
variable {P : Program} {w : World} {K : PySem.W.Frag} {mg : Str → Option Value} {base : Heap}
theorem sc_best_left : FnScope ["ranking", "left", "thing"] ["ranking", "left"] (defScope (top 2)) := ⟨rfl, rfl, rfl, by decide +kernel, rfl, by decide +kernel, by decide +kernel⟩
theorem ok_best_left (W : Fx K mg) : FnOkG P w K mg base CX0 1 W.a_best_left W.d_best_left ["ranking", "left"] (spD K 2 c_best_left) :=
  fn_okD W.F_best_left sc_best_left rfl rfl fun cdv A outer s H E hr => (have hN := sc_best_left.nd; (sss_cons (ss_for PassesOwn.never rfl (si_seq sa_var) (sg_name hN) (sss_cons (ss_if (st_cmp (op_inAll (u65 hr)) s_in (by rfl) sa_var sa_var bl_in) (sss_cons (ss_ret sa_var) sss_nil) sss_nil) sss_nil)) (sss_cons (ss_ret (sa_gint W.k_NOTHING)) sss_nil)) : SSs _ _ m_best_left)
theorem sc_pointers : FnScope ["rankings", "left", "found", "person"] ["rankings", "left"] (defScope (top 4)) := ⟨rfl, rfl, rfl, by decide +kernel, rfl, by decide +kernel, by decide +kernel⟩
theorem ok_pointers (W : Fx K mg) : FnOkG P w K mg base CX0 2 W.a_pointers W.d_pointers ["rankings", "left"] (spD K 2 c_pointers) :=
  fn_okD W.F_pointers sc_pointers rfl rfl fun cdv A outer s H E hr => (have hN := sc_pointers.nd; (sss_cons (ss_set sa_dct0 hN) (sss_cons (ss_for PassesOwn.never rfl (si_seq sa_var) (sg_name hN) (sss_cons (ss_setIxL (u65 hr) (by rfl) (by first | exact Or.inl rfl | exact Or.inr (Or.inl rfl) | exact Or.inr (Or.inr rfl)) (by decide) (by decide) (sa_call (ok_best_left W) (hr.mono (by decide)) W.g_best_left W.F_best_left.kp W.b_best_left (sas_cons (sa_ix (u65 hr) sa_var sa_var) (sas_cons sa_var sas_nil))) sa_var (by rfl) (by rfl) (by intros; rfl) (by rfl)) sss_nil)) (sss_cons (ss_ret sa_var) sss_nil))) : SSs _ _ m_pointers)
theorem sc_is_on_ring : FnScope ["points", "person", "here", "step"] ["points", "person"] (defScope (top 5)) := ⟨rfl, rfl, rfl, by decide +kernel, rfl, by decide +kernel, by decide +kernel⟩
theorem ok_is_on_ring (W : Fx K mg) : FnOkG P w K mg base CX0 1 W.a_is_on_ring W.d_is_on_ring ["points", "person"] (spD K 2 c_is_on_ring) :=
  fn_okD W.F_is_on_ring sc_is_on_ring rfl rfl fun cdv A outer s H E hr => (have hN := sc_is_on_ring.nd; (sss_cons (ss_set sa_fz hN) (sss_cons (ss_for PassesOwn.never rfl (si_range1 W.n_range (sa_callB call_lenAll s_len W.n_len (by decide +kernel) (sas_cons sa_var sas_nil))) (sg_name hN) (sss_cons (ss_set (sa_ix (u65 hr) sa_var sa_var) hN) (sss_cons (ss_if (st_cmp (op_eqD (u64 hr)) s_eq (nomark _) sa_var sa_var bl_eq) (sss_cons (ss_ret sa_bl) sss_nil) sss_nil) sss_nil))) (sss_cons (ss_ret sa_bl) sss_nil))) : SSs _ _ m_is_on_ring)
theorem sc_ring_members : FnScope ["points", "person"] ["points"] (defScope (top 6)) := ⟨rfl, rfl, rfl, by decide +kernel, rfl, by decide +kernel, by decide +kernel⟩
theorem ok_ring_members (W : Fx K mg) : FnOkG P w K mg base CX0 2 W.a_ring_members W.d_ring_members ["points"] (spD K 1 c_ring_members) :=
  fn_okD W.F_ring_members sc_ring_members rfl rfl fun cdv A outer s H E hr => (have hN := sc_ring_members.nd; (sss_cons (ss_ret (sa_lc rfl hN (si_seq (sa_callB (call_sortedDI rfl) s_sortDI W.n_sorted (by decide +kernel) (sas_cons sa_var sas_nil))) (blk_of (own := [("person", 1)]) (by kernel_rfl)) rfl (fun _ _ _ _ _ => (sg_name hN)) (fun _ _ _ _ _ => (sts_one (st_truth (sa_call (ok_is_on_ring W) (hr.mono (by decide)) W.g_is_on_ring W.F_is_on_ring.kp W.b_is_on_ring (sas_cons sa_var (sas_cons sa_var sas_nil)))))) (fun _ _ _ _ _ => sa_var))) sss_nil) : SSs _ _ m_ring_members)
theorem sc_trades_giving : FnScope ["rankings", "given", "ranking", "left", "turn", "points", "leaving", "person"] ["rankings"] (defScope (top 7)) := ⟨rfl, rfl, rfl, by decide +kernel, rfl, by decide +kernel, by decide +kernel⟩
theorem ok_trades_giving (W : Fx K mg) : FnOkG P w K mg base CX0 3 W.a_trades_giving W.d_trades_giving ["rankings"] (spD K 1 c_trades_giving) :=
  fn_okD W.F_trades_giving sc_trades_giving rfl rfl fun cdv A outer s H E hr => (have hN := sc_trades_giving.nd; (sss_cons (ss_setLc rfl hN (si_seq sa_var) (blk_of (own := [("ranking", 2)]) (by kernel_rfl)) rfl (fun _ _ _ _ _ => (sg_name hN)) (fun _ _ _ _ _ => sts_nil) (fun _ _ _ _ _ => (sa_gint W.k_NOTHING))) (sss_cons (ss_set (sa_listRg rfl W.n_list (srg_1 W.n_range (sa_callB call_lenAll s_len W.n_len (by decide +kernel) (sas_cons sa_var sas_nil)))) hN) (sss_cons (ss_for PassesOwn.never rfl (si_range1 W.n_range (sa_callB call_lenAll s_len W.n_len (by decide +kernel) (sas_cons sa_var sas_nil))) (sg_name hN) (sss_cons (ss_set (sa_call (ok_pointers W) (hr.mono (by decide)) W.g_pointers W.F_pointers.kp W.b_pointers (sas_cons sa_var (sas_cons sa_var sas_nil))) hN) (sss_cons (ss_set (sa_call (ok_ring_members W) (hr.mono (by decide)) W.g_ring_members W.F_ring_members.kp W.b_ring_members (sas_cons sa_var sas_nil)) hN) (sss_cons (ss_for PassesOwn.never rfl (si_seq sa_var) (sg_name hN) (sss_cons (ss_setIxL (u65 hr) (by rfl) (by first | exact Or.inl rfl | exact Or.inr (Or.inl rfl) | exact Or.inr (Or.inr rfl)) (by decide) (by decide) (sa_ix (u65 hr) sa_var sa_var) sa_var (by rfl) (by rfl) (by intros; rfl) (by rfl)) sss_nil)) (sss_cons (ss_setLc rfl hN (si_seq sa_var) (blk_of (own := [("person", 7)]) (by kernel_rfl)) rfl (fun _ _ _ _ _ => (sg_name hN)) (fun _ _ _ _ _ => (sts_one (st_cmp (op_notInAll (u65 hr)) s_notIn (by rfl) sa_var sa_var bl_in))) (fun _ _ _ _ _ => sa_var)) sss_nil))))) (sss_cons (ss_ret (sa_callTy call_tuple_ofF s_tuple W.n_tuple (by decide +kernel) (sas_cons sa_var sas_nil))) sss_nil)))) : SSs _ _ m_trades_giving)
theorem sc__law_begin : FnScope ["script", "cell"] ["script"] (defScope (top 9)) := ⟨rfl, rfl, rfl, by decide +kernel, rfl, by decide +kernel, by decide +kernel⟩
theorem ok__law_begin (W : Fx K mg) : FnOkG P w K mg base CX0 1 W.a__law_begin W.d__law_begin ["script"] (spD K 1 c__law_begin) :=
  fn_okD W.F__law_begin sc__law_begin rfl rfl fun cdv A outer s H E hr => (have hN := sc__law_begin.nd; (sss_cons (ss_ret (sa_lst (sas_cons (sa_lc rfl hN (si_seq sa_var) (blk_of (own := [("cell", 1)]) (by kernel_rfl)) rfl (fun _ _ _ _ _ => (sg_name hN)) (fun _ _ _ _ _ => sts_nil) (fun _ _ _ _ _ => (sa_callTy call_int1 s_int W.n_int (by decide +kernel) (sas_cons sa_var sas_nil)))) (sas_cons sa_int (sas_cons sa_int (sas_cons sa_int sas_nil)))))) sss_nil) : SSs _ _ m__law_begin)
theorem sc__law_draw : FnScope ["d", "many", "found", "size", "cell"] ["d", "many"] (defScope (top 10)) := ⟨rfl, rfl, rfl, by decide +kernel, rfl, by decide +kernel, by decide +kernel⟩
theorem ok__law_draw (W : Fx K mg) : FnOkG P w K mg base CX0 1 W.a__law_draw W.d__law_draw ["d", "many"] (spD K 2 c__law_draw) :=
  fn_okD W.F__law_draw sc__law_draw rfl rfl fun cdv A outer s H E hr => (have hN := sc__law_draw.nd; (sss_cons (ss_if (st_cmp op_gt s_cmp (nomark _) (sa_ix (u65 hr) sa_var sa_int) sa_int bl_cmp) (sss_cons (ss_set (sa_ix (u65 hr) sa_var sa_int) hN) (sss_cons (ss_setIxL (u65 hr) (by rfl) (by first | exact Or.inl rfl | exact Or.inr (Or.inl rfl) | exact Or.inr (Or.inr rfl)) (by decide) (by decide) (sa_bin op_fdivW s_div sa_var sa_var) sa_int (by rfl) (by rfl) (by intros; rfl) (by rfl)) (sss_cons (ss_ret (sa_bin op_mod s_mod (sa_callTy call_int1 s_int W.n_int (by decide +kernel) (sas_cons sa_var sas_nil)) sa_var)) sss_nil))) sss_nil) (sss_cons (ss_set sa_int hN) (sss_cons (ss_if (st_cmp op_lt s_cmp (nomark _) (sa_ix (u65 hr) sa_var sa_int) (sa_callB call_lenAll s_len W.n_len (by decide +kernel) (sas_cons (sa_ix (u65 hr) sa_var sa_int) sas_nil)) bl_cmp) (sss_cons (ss_set (sa_ix (u65 hr) (sa_ix (u65 hr) sa_var sa_int) (sa_ix (u65 hr) sa_var sa_int)) hN) (sss_cons (ss_set (sa_bin op_addAll s_add (sa_bin op_mulAll s_mul sa_int (sa_callB call_abs s_abs W.n_abs (by decide +kernel) (sas_cons sa_var sas_nil))) (sa_callTy call_int1 s_int W.n_int (by decide +kernel) (sas_cons (sa_cmp op_lt s_cmp (nomark _) sa_var sa_int) sas_nil))) hN) sss_nil)) sss_nil) (sss_cons (ss_augIx iop_addAll s_iadd sa_int sa_int) (sss_cons (ss_if (st_cmp op_ge s_cmp (nomark _) sa_var (sa_bin op_mulAll s_mul sa_int (sa_bin op_pow s_pow sa_int sa_int)) bl_cmp) (sss_cons (ss_set (sa_bin op_mod s_mod (sa_callTy call_int1 s_int W.n_int (by decide +kernel) (sas_cons (sa_bin op_fdivW s_div sa_var sa_int) sas_nil)) (sa_bin op_shl s_shl sa_int sa_int)) hN) (sss_cons (ss_setIxL (u65 hr) (by rfl) (by first | exact Or.inl rfl | exact Or.inr (Or.inl rfl) | exact Or.inr (Or.inr rfl)) (by decide) (by decide) (sa_bin op_fdivW s_div sa_var sa_var) sa_int (by rfl) (by rfl) (by intros; rfl) (by rfl)) (sss_cons (ss_ret (sa_bin op_mod s_mod (sa_callTy call_int1 s_int W.n_int (by decide +kernel) (sas_cons sa_var sas_nil)) sa_var)) sss_nil))) sss_nil) (sss_cons (ss_setIxL (u65 hr) (by rfl) (by first | exact Or.inl rfl | exact Or.inr (Or.inl rfl) | exact Or.inr (Or.inr rfl)) (by decide) (by decide) (sa_bin op_mod s_mod (sa_callTy call_int1 s_int W.n_int (by decide +kernel) (sas_cons (sa_bin op_addAll s_add (sa_bin op_addAll s_add (sa_bin op_addAll s_add (sa_bin op_mulAll s_mul (sa_ix (u65 hr) sa_var sa_int) sa_int) (sa_bin op_mulAll s_mul (sa_bin op_mod s_mod (sa_callTy call_int1 s_int W.n_int (by decide +kernel) (sas_cons sa_var sas_nil)) sa_int) sa_int)) (sa_bin op_mulAll s_mul (sa_ix (u65 hr) sa_var sa_int) sa_int)) sa_int) sas_nil)) sa_int) sa_int (by rfl) (by rfl) (by intros; rfl) (by rfl)) (sss_cons (ss_ret (sa_bin op_mod s_mod (sa_callTy call_int1 s_int W.n_int (by decide +kernel) (sas_cons (sa_bin op_fdivW s_div (sa_ix (u65 hr) sa_var sa_int) sa_int) sas_nil)) sa_var)) sss_nil))))))) : SSs _ _ m__law_draw)
theorem sc__law_pick : FnScope ["d", "row"] ["d", "row"] (defScope (top 11)) := ⟨rfl, rfl, rfl, by decide +kernel, rfl, by decide +kernel, by decide +kernel⟩
theorem ok__law_pick (W : Fx K mg) : FnOkG P w K mg base CX0 2 W.a__law_pick W.d__law_pick ["d", "row"] (spD K 2 c__law_pick) :=
  fn_okD W.F__law_pick sc__law_pick rfl rfl fun cdv A outer s H E hr => (have hN := sc__law_pick.nd; (sss_cons (ss_ret (sa_ix (u65 hr) sa_var (sa_call (ok__law_draw W) (hr.mono (by decide)) W.g__law_draw W.F__law_draw.kp W.b__law_draw (sas_cons sa_var (sas_cons (sa_callB call_lenAll s_len W.n_len (by decide +kernel) (sas_cons sa_var sas_nil)) sas_nil))))) sss_nil) : SSs _ _ m__law_pick)
theorem sc__law_shuffled : FnScope ["d", "row", "left", "found", "k"] ["d", "row"] (defScope (top 12)) := ⟨rfl, rfl, rfl, by decide +kernel, rfl, by decide +kernel, by decide +kernel⟩
theorem ok__law_shuffled (W : Fx K mg) : FnOkG P w K mg base CX0 2 W.a__law_shuffled W.d__law_shuffled ["d", "row"] (spD K 2 c__law_shuffled) :=
  fn_okD W.F__law_shuffled sc__law_shuffled rfl rfl fun cdv A outer s H E hr => (have hN := sc__law_shuffled.nd; (sss_cons (ss_set (sa_callTy call_list_of s_list W.n_list (by decide +kernel) (sas_cons sa_var sas_nil)) hN) (sss_cons (ss_set (sa_lst sas_nil) hN) (sss_cons (ss_for PassesOwn.never rfl (si_range1 W.n_range (sa_callB call_lenAll s_len W.n_len (by decide +kernel) (sas_cons sa_var sas_nil))) (sg_name hN) (sss_cons (ss_expr (sa_meth PySem.F.slot_list_append PySem.F.type_list_append mt_append s_append (sas_cons (sa_meth PySem.F.slot_list_pop PySem.F.type_list_pop mt_popAt s_pop1 (sas_cons (sa_call (ok__law_draw W) (hr.mono (by decide)) W.g__law_draw W.F__law_draw.kp W.b__law_draw (sas_cons sa_var (sas_cons (sa_callB call_lenAll s_len W.n_len (by decide +kernel) (sas_cons sa_var sas_nil)) sas_nil))) sas_nil)) sas_nil))) sss_nil)) (sss_cons (ss_ret sa_var) sss_nil)))) : SSs _ _ m__law_shuffled)
theorem sc__law_is_int : FnScope ["thing"] ["thing"] (defScope (top 13)) := ⟨rfl, rfl, rfl, by decide +kernel, rfl, by decide +kernel, by decide +kernel⟩
theorem ok__law_is_int (W : Fx K mg) : FnOkG P w K mg base CX0 1 W.a__law_is_int W.d__law_is_int ["thing"] (spD K 1 c__law_is_int) :=
  fn_okD W.F__law_is_int sc__law_is_int rfl rfl fun cdv A outer s H E hr => (have hN := sc__law_is_int.nd; (sss_cons (ss_ret (sa_and (sa_isi (T := "int") W.n_isinstance W.n_int sa_var rfl) (sa_one (sa_not (sa_isi (T := "bool") W.n_isinstance W.n_bool sa_var rfl))))) sss_nil) : SSs _ _ m__law_is_int)
theorem sc__law_is_ints : FnScope ["row", "share"] ["row"] (defScope (top 14)) := ⟨rfl, rfl, rfl, by decide +kernel, rfl, by decide +kernel, by decide +kernel⟩
theorem ok__law_is_ints (W : Fx K mg) : FnOkG P w K mg base CX0 2 W.a__law_is_ints W.d__law_is_ints ["row"] (spD K 1 c__law_is_ints) :=
  fn_okD W.F__law_is_ints sc__law_is_ints rfl rfl fun cdv A outer s H E hr => (have hN := sc__law_is_ints.nd; (sss_cons (ss_ret (sa_and (sa_isi (T := "tuple") W.n_isinstance W.n_tuple sa_var rfl) (sa_one (sa_callB (cr_all rfl) s_all W.n_all (by decide +kernel) (sas_cons (sa_lc rfl hN (si_seq sa_var) (blk_of (own := [("share", 1)]) (by kernel_rfl)) rfl (fun _ _ _ _ _ => (sg_name hN)) (fun _ _ _ _ _ => sts_nil) (fun _ _ _ _ _ => (sa_call (ok__law_is_int W) (hr.mono (by decide)) W.g__law_is_int W.F__law_is_int.kp W.b__law_is_int (sas_cons sa_var sas_nil)))) sas_nil))))) sss_nil) : SSs _ _ m__law_is_ints)
theorem sc__law_listing : FnScope ["d", "many"] ["d", "many"] (defScope (top 15)) := ⟨rfl, rfl, rfl, by decide +kernel, rfl, by decide +kernel, by decide +kernel⟩
theorem ok__law_listing (W : Fx K mg) : FnOkG P w K mg base CX0 3 W.a__law_listing W.d__law_listing ["d", "many"] (spD K 2 c__law_listing) :=
  fn_okD W.F__law_listing sc__law_listing rfl rfl fun cdv A outer s H E hr => (have hN := sc__law_listing.nd; (sss_cons (ss_ret (sa_callTy call_tuple_ofF s_tuple W.n_tuple (by decide +kernel) (sas_cons (sa_call (ok__law_shuffled W) (hr.mono (by decide)) W.g__law_shuffled W.F__law_shuffled.kp W.b__law_shuffled (sas_cons sa_var (sas_cons (sa_listRg rfl W.n_list (srg_1 W.n_range sa_var)) sas_nil))) sas_nil))) sss_nil) : SSs _ _ m__law_listing)
theorem sc__law_listings : FnScope ["d", "many", "two", "person"] ["d", "many"] (defScope (top 16)) := ⟨rfl, rfl, rfl, by decide +kernel, rfl, by decide +kernel, by decide +kernel⟩
theorem ok__law_listings (W : Fx K mg) : FnOkG P w K mg base CX0 4 W.a__law_listings W.d__law_listings ["d", "many"] (spD K 2 c__law_listings_k17) :=
  fn_okD W.F__law_listings sc__law_listings rfl rfl fun cdv A outer s H E hr => (have hN := sc__law_listings.nd; (sss_cons (ss_if (st_cmp (op_eqD (u64 hr)) s_eq (nomark _) (sa_call (ok__law_draw W) (hr.mono (by decide)) W.g__law_draw W.F__law_draw.kp W.b__law_draw (sas_cons sa_var (sas_cons sa_int sas_nil))) sa_int bl_eq) (sss_cons (ss_set (sa_lst (sas_cons (sa_call (ok__law_listing W) (hr.mono (by decide)) W.g__law_listing W.F__law_listing.kp W.b__law_listing (sas_cons sa_var (sas_cons sa_var sas_nil))) (sas_cons (sa_call (ok__law_listing W) (hr.mono (by decide)) W.g__law_listing W.F__law_listing.kp W.b__law_listing (sas_cons sa_var (sas_cons sa_var sas_nil))) sas_nil))) hN) (sss_cons (ss_ret (sa_callTy call_tuple_ofF s_tuple W.n_tuple (by decide +kernel) (sas_cons (sa_lc rfl hN (si_range1 W.n_range sa_var) (blk_of (own := [("person", 3)]) (by kernel_rfl)) rfl (fun _ _ _ _ _ => (sg_name hN)) (fun _ _ _ _ _ => sts_nil) (fun _ _ _ _ _ => (sa_call (ok__law_pick W) (hr.mono (by decide)) W.g__law_pick W.F__law_pick.kp W.b__law_pick (sas_cons sa_var (sas_cons sa_var sas_nil))))) sas_nil))) sss_nil)) sss_nil) (sss_cons (ss_ret (sa_callTy call_tuple_ofF s_tuple W.n_tuple (by decide +kernel) (sas_cons (sa_lc rfl hN (si_range1 W.n_range sa_var) (blk_of (own := [("person", 3)]) (by kernel_rfl)) rfl (fun _ _ _ _ _ => (sg_name hN)) (fun _ _ _ _ _ => sts_nil) (fun _ _ _ _ _ => (sa_call (ok__law_listing W) (hr.mono (by decide)) W.g__law_listing W.F__law_listing.kp W.b__law_listing (sas_cons sa_var (sas_cons sa_var sas_nil))))) sas_nil))) sss_nil)) : SSs _ _ m__law_listings_k17)
theorem sc__law_best : FnScope ["ranking", "left", "thing"] ["ranking", "left"] (defScope (top 17)) := ⟨rfl, rfl, rfl, by decide +kernel, rfl, by decide +kernel, by decide +kernel⟩
theorem ok__law_best (W : Fx K mg) : FnOkG P w K mg base CX0 1 W.a__law_best W.d__law_best ["ranking", "left"] (spD K 2 c__law_best) :=
  fn_okD W.F__law_best sc__law_best rfl rfl fun cdv A outer s H E hr => (have hN := sc__law_best.nd; (sss_cons (ss_ret (sa_ix (u65 hr) (sa_lc rfl hN (si_seq sa_var) (blk_of (own := [("thing", 2)]) (by kernel_rfl)) rfl (fun _ _ _ _ _ => (sg_name hN)) (fun _ _ _ _ _ => (sts_one (st_cmp (op_inAll (u65 hr)) s_in (by rfl) sa_var sa_var bl_in))) (fun _ _ _ _ _ => sa_var)) sa_int)) sss_nil) : SSs _ _ m__law_best)
theorem sc__law_rings : FnScope ["rankings", "given", "ranking", "left", "k", "here", "step", "ring", "after", "person"] ["rankings"] (defScope (top 18)) := ⟨rfl, rfl, rfl, by decide +kernel, rfl, by decide +kernel, by decide +kernel⟩
theorem ok__law_rings (W : Fx K mg) : FnOkG P w K mg base CX0 2 W.a__law_rings W.d__law_rings ["rankings"] (spD K 1 c__law_rings) :=
  fn_okD W.F__law_rings sc__law_rings rfl rfl fun cdv A outer s H E hr => (have hN := sc__law_rings.nd; (sss_cons (ss_setLc rfl hN (si_seq sa_var) (blk_of (own := [("ranking", 2)]) (by kernel_rfl)) rfl (fun _ _ _ _ _ => (sg_name hN)) (fun _ _ _ _ _ => sts_nil) (fun _ _ _ _ _ => (sa_un un_neg s_neg sa_int))) (sss_cons (ss_set (sa_listRg rfl W.n_list (srg_1 W.n_range (sa_callB call_lenAll s_len W.n_len (by decide +kernel) (sas_cons sa_var sas_nil)))) hN) (sss_cons (ss_for PassesOwn.never rfl (si_range1 W.n_range (sa_callB call_lenAll s_len W.n_len (by decide +kernel) (sas_cons sa_var sas_nil))) (sg_name hN) (sss_cons (ss_if (st_truth sa_var) (sss_cons (ss_set (sa_ix (u65 hr) sa_var sa_int) hN) (sss_cons (ss_for PassesOwn.never rfl (si_range1 W.n_range (sa_callB call_lenAll s_len W.n_len (by decide +kernel) (sas_cons sa_var sas_nil))) (sg_name hN) (sss_cons (ss_set (sa_call (ok__law_best W) (hr.mono (by decide)) W.g__law_best W.F__law_best.kp W.b__law_best (sas_cons (sa_ix (u65 hr) sa_var sa_var) (sas_cons sa_var sas_nil))) hN) sss_nil)) (sss_cons (ss_set (sa_lst (sas_cons sa_var sas_nil)) hN) (sss_cons (ss_for PassesOwn.never rfl (si_range1 W.n_range (sa_callB call_lenAll s_len W.n_len (by decide +kernel) (sas_cons sa_var sas_nil))) (sg_name hN) (sss_cons (ss_set (sa_call (ok__law_best W) (hr.mono (by decide)) W.g__law_best W.F__law_best.kp W.b__law_best (sas_cons (sa_ix (u65 hr) sa_var (sa_ix (u65 hr) sa_var (sa_un un_neg s_neg sa_int))) (sas_cons sa_var sas_nil))) hN) (sss_cons (ss_if (st_cmp (op_notInAll (u65 hr)) s_notIn (by rfl) sa_var sa_var bl_in) (sss_cons (ss_expr (sa_meth PySem.F.slot_list_append PySem.F.type_list_append mt_append s_append (sas_cons sa_var sas_nil))) sss_nil) sss_nil) sss_nil))) (sss_cons (ss_for PassesOwn.never rfl (si_seq sa_var) (sg_name hN) (sss_cons (ss_setIxL (u65 hr) (by rfl) (by first | exact Or.inl rfl | exact Or.inr (Or.inl rfl) | exact Or.inr (Or.inr rfl)) (by decide) (by decide) (sa_call (ok__law_best W) (hr.mono (by decide)) W.g__law_best W.F__law_best.kp W.b__law_best (sas_cons (sa_ix (u65 hr) sa_var sa_var) (sas_cons sa_var sas_nil))) sa_var (by rfl) (by rfl) (by intros; rfl) (by rfl)) sss_nil)) (sss_cons (ss_setLc rfl hN (si_seq sa_var) (blk_of (own := [("person", 9)]) (by kernel_rfl)) rfl (fun _ _ _ _ _ => (sg_name hN)) (fun _ _ _ _ _ => (sts_one (st_cmp (op_notInAll (u65 hr)) s_notIn (by rfl) sa_var sa_var bl_in))) (fun _ _ _ _ _ => sa_var)) sss_nil)))))) sss_nil) sss_nil)) (sss_cons (ss_ret (sa_callTy call_tuple_ofF s_tuple W.n_tuple (by decide +kernel) (sas_cons sa_var sas_nil))) sss_nil)))) : SSs _ _ m__law_rings)
theorem sc__law_arranged : FnScope ["things", "rows", "k", "longer", "row", "thing"] ["things"] (defScope (top 19)) := ⟨rfl, rfl, rfl, by decide +kernel, rfl, by decide +kernel, by decide +kernel⟩
theorem ok__law_arranged (W : Fx K mg) : FnOkG P w K mg base CX0 1 W.a__law_arranged W.d__law_arranged ["things"] (spD K 1 c__law_arranged) :=
  fn_okD W.F__law_arranged sc__law_arranged rfl rfl fun cdv A outer s H E hr => (have hN := sc__law_arranged.nd; (sss_cons (ss_set (sa_lst (sas_cons (sa_tup sas_nil) sas_nil)) hN) (sss_cons (ss_for PassesOwn.never rfl (si_range1 W.n_range (sa_callB call_lenAll s_len W.n_len (by decide +kernel) (sas_cons sa_var sas_nil))) (sg_name hN) (sss_cons (ss_set (sa_lst sas_nil) hN) (sss_cons (ss_for PassesOwn.never rfl (si_seq sa_var) (sg_name hN) (sss_cons (ss_expr (sa_meth PySem.F.slot_list_extend PySem.F.type_list_extend mt_extend s_extend (sas_cons (sa_lc rfl hN (si_seq sa_var) (blk_of (own := [("thing", 5)]) (by kernel_rfl)) rfl (fun _ _ _ _ _ => (sg_name hN)) (fun _ _ _ _ _ => (sts_one (st_cmp (op_notInAll (u65 hr)) s_notIn (by rfl) sa_var sa_var bl_in))) (fun _ _ _ _ _ => (sa_bin op_addAll s_add sa_var (sa_tup (sas_cons sa_var sas_nil))))) sas_nil))) sss_nil)) (sss_cons (ss_set sa_var hN) sss_nil)))) (sss_cons (ss_ret sa_var) sss_nil))) : SSs _ _ m__law_arranged)
theorem sc__law_groups : FnScope ["many", "found", "mask", "members", "person", "row"] ["many"] (defScope (top 20)) := ⟨rfl, rfl, rfl, by decide +kernel, rfl, by decide +kernel, by decide +kernel⟩
theorem ok__law_groups (W : Fx K mg) : FnOkG P w K mg base CX0 2 W.a__law_groups W.d__law_groups ["many"] (spD K 1 c__law_groups) :=
  fn_okD W.F__law_groups sc__law_groups rfl rfl fun cdv A outer s H E hr => (have hN := sc__law_groups.nd; (sss_cons (ss_set (sa_lst sas_nil) hN) (sss_cons (ss_for PassesOwn.never rfl (si_range2 W.n_range sa_int (sa_bin op_shl s_shl sa_int sa_var)) (sg_name hN) (sss_cons (ss_set (sa_lc rfl hN (si_range1 W.n_range sa_var) (blk_of (own := [("person", 4)]) (by kernel_rfl)) rfl (fun _ _ _ _ _ => (sg_name hN)) (fun _ _ _ _ _ => (sts_one (st_truth (sa_bin op_and s_band (sa_bin op_shr s_shr sa_var sa_var) sa_int)))) (fun _ _ _ _ _ => sa_var)) hN) (sss_cons (ss_expr (sa_meth PySem.F.slot_list_extend PySem.F.type_list_extend mt_extend s_extend (sas_cons (sa_lc rfl hN (si_seq (sa_call (ok__law_arranged W) (hr.mono (by decide)) W.g__law_arranged W.F__law_arranged.kp W.b__law_arranged (sas_cons sa_var sas_nil))) (blk_of (own := [("row", 5)]) (by kernel_rfl)) rfl (fun _ _ _ _ _ => (sg_name hN)) (fun _ _ _ _ _ => sts_nil) (fun _ _ _ _ _ => (sa_tup (sas_cons sa_var (sas_cons sa_var sas_nil))))) sas_nil))) sss_nil))) (sss_cons (ss_ret sa_var) sss_nil))) : SSs _ _ m__law_groups)
theorem sc__law_is_bettered : FnScope ["spots", "groups", "giving", "members", "row", "gains", "k"] ["spots", "groups", "giving"] (defScope (top 21)) := ⟨rfl, rfl, rfl, by decide +kernel, rfl, by decide +kernel, by decide +kernel⟩
theorem ok__law_is_bettered (W : Fx K mg) : FnOkG P w K mg base CX0 1 W.a__law_is_bettered W.d__law_is_bettered ["spots", "groups", "giving"] (spD K 3 c__law_is_bettered) :=
  fn_okD W.F__law_is_bettered sc__law_is_bettered rfl rfl fun cdv A outer s H E hr => (have hN := sc__law_is_bettered.nd; (sss_cons (ss_for PassesOwn.never rfl (si_seq sa_var) (sg_tup rfl (sgs_cons (sg_name hN) (sgs_cons (sg_name hN) sgs_nil))) (sss_cons (ss_setLc rfl hN (si_range1 W.n_range (sa_callB call_lenAll s_len W.n_len (by decide +kernel) (sas_cons sa_var sas_nil))) (blk_of (own := [("k", 6)]) (by kernel_rfl)) rfl (fun _ _ _ _ _ => (sg_name hN)) (fun _ _ _ _ _ => sts_nil) (fun _ _ _ _ _ => (sa_bin op_sub s_sub (sa_ix (u65 hr) (sa_ix (u65 hr) sa_var (sa_ix (u65 hr) sa_var sa_var)) (sa_ix (u65 hr) sa_var (sa_ix (u65 hr) sa_var sa_var))) (sa_ix (u65 hr) (sa_ix (u65 hr) sa_var (sa_ix (u65 hr) sa_var sa_var)) (sa_ix (u65 hr) sa_var sa_var))))) (sss_cons (ss_if (sw_and (st_cmp op_ge s_cmp (nomark _) (sa_callB (call_minAll rfl) s_min W.n_min (by decide +kernel) (sas_cons sa_var sas_nil)) sa_int bl_cmp) (sw_and1 (st_cmp op_gt s_cmp (nomark _) (sa_callB (call_maxAll rfl) s_max W.n_max (by decide +kernel) (sas_cons sa_var sas_nil)) sa_int bl_cmp))).st (sss_cons (ss_ret sa_bl) sss_nil) sss_nil) sss_nil))) (sss_cons (ss_ret sa_bl) sss_nil)) : SSs _ _ m__law_is_bettered)
theorem sc_law : FnScope ["script", "d", "many", "rankings", "due", "told", "spots", "thing", "ranking", "groups", "every", "giving", "person", "lie", "row", "other", "again"] ["script"] (defScope (top 22)) := ⟨rfl, rfl, rfl, by decide +kernel, rfl, by decide +kernel, by decide +kernel⟩
theorem ok_law (W : Fx K mg) : FnOkG P w K mg base CX0 5 W.a_law W.d_law ["script"] (spD K 1 c_law_k17) :=
  fn_okD W.F_law sc_law rfl rfl fun cdv A outer s H E hr => (have hN := sc_law.nd; (sss_cons (ss_set (sa_call (ok__law_begin W) (hr.mono (by decide)) W.g__law_begin W.F__law_begin.kp W.b__law_begin (sas_cons sa_var sas_nil)) hN) (sss_cons (ss_set (sa_bin op_addAll s_add sa_int (sa_call (ok__law_draw W) (hr.mono (by decide)) W.g__law_draw W.F__law_draw.kp W.b__law_draw (sas_cons sa_var (sas_cons sa_int sas_nil)))) hN) (sss_cons (ss_set (sa_call (ok__law_listings W) (hr.mono (by decide)) W.g__law_listings W.F__law_listings.kp W.b__law_listings (sas_cons sa_var (sas_cons sa_var sas_nil))) hN) (sss_cons (ss_set (sa_call (ok__law_rings W) (hr.mono (by decide)) W.g__law_rings W.F__law_rings.kp W.b__law_rings (sas_cons sa_var sas_nil)) hN) (sss_cons (ss_set (sa_call (ok_trades_giving W) (hr.mono (by decide)) W.g_trades_giving W.F_trades_giving.kp W.b_trades_giving (sas_cons sa_var sas_nil)) hN) (sss_cons (ss_if (sw_or (st_not (st_truth (sa_call (ok__law_is_ints W) (hr.mono (by decide)) W.g__law_is_ints W.F__law_is_ints.kp W.b__law_is_ints (sas_cons sa_var sas_nil)))) (sw_or1 (st_cmp (op_neD (u64 hr)) s_ne (nomark _) sa_var sa_var bl_ne))).st (sss_cons (ss_ret sa_bl) sss_nil) sss_nil) (sss_cons (ss_setLc rfl hN (si_seq sa_var) (blk_of (own := [("ranking", 8)]) (by kernel_rfl)) rfl (fun _ _ _ _ _ => (sg_name hN)) (fun _ _ _ _ _ => sts_nil) (fun _ _ _ _ _ => (sa_lc rfl hN (si_range1 W.n_range sa_var) (blk_of (own := [("thing", 7)]) (by kernel_rfl)) rfl (fun _ _ _ _ _ => (sg_name hN)) (fun _ _ _ _ _ => sts_nil) (fun _ _ _ _ _ => (sa_index (u65 hr) sa_var sa_var))))) (sss_cons (ss_set (sa_call (ok__law_groups W) (hr.mono (by decide)) W.g__law_groups W.F__law_groups.kp W.b__law_groups (sas_cons sa_var sas_nil)) hN) (sss_cons (ss_set (sa_call (ok__law_arranged W) (hr.mono (by decide)) W.g__law_arranged W.F__law_arranged.kp W.b__law_arranged (sas_cons (sa_listRg rfl W.n_list (srg_1 W.n_range sa_var)) sas_nil)) hN) (sss_cons (ss_for PassesOwn.never rfl (si_seq sa_var) (sg_name hN) (sss_cons (ss_if (st_cmp (op_neD (u64 hr)) s_ne (nomark _) (sa_call (ok__law_is_bettered W) (hr.mono (by decide)) W.g__law_is_bettered W.F__law_is_bettered.kp W.b__law_is_bettered (sas_cons sa_var (sas_cons sa_var (sas_cons sa_var sas_nil)))) (sa_cmp (op_neD (u64 hr)) s_ne (nomark _) sa_var sa_var) bl_ne) (sss_cons (ss_ret sa_bl) sss_nil) sss_nil) sss_nil)) (sss_cons (ss_set (sa_call (ok__law_draw W) (hr.mono (by decide)) W.g__law_draw W.F__law_draw.kp W.b__law_draw (sas_cons sa_var (sas_cons sa_var sas_nil))) hN) (sss_cons (ss_for PassesOwn.never rfl (si_seq sa_var) (sg_name hN) (sss_cons (ss_set (sa_bin op_addAll s_add (sa_bin op_addAll s_add (sa_slice sa_var spo_none (spo_some sa_var)) (sa_tup (sas_cons sa_var sas_nil))) (sa_slice sa_var (spo_some (sa_bin op_addAll s_add sa_var sa_int)) spo_none)) hN) (sss_cons (ss_set (sa_call (ok_trades_giving W) (hr.mono (by decide)) W.g_trades_giving W.F_trades_giving.kp W.b_trades_giving (sas_cons sa_var sas_nil)) hN) (sss_cons (ss_if (sw_or (st_not (st_truth (sa_call (ok__law_is_ints W) (hr.mono (by decide)) W.g__law_is_ints W.F__law_is_ints.kp W.b__law_is_ints (sas_cons sa_var sas_nil)))) (sw_or1 (st_cmp (op_neD (u64 hr)) s_ne (nomark _) sa_var (sa_call (ok__law_rings W) (hr.mono (by decide)) W.g__law_rings W.F__law_rings.kp W.b__law_rings (sas_cons sa_var sas_nil)) bl_ne))).st (sss_cons (ss_ret sa_bl) sss_nil) sss_nil) (sss_cons (ss_if (st_cmp op_lt s_cmp (nomark _) (sa_ix (u65 hr) (sa_ix (u65 hr) sa_var sa_var) (sa_ix (u65 hr) sa_var sa_var)) (sa_ix (u65 hr) (sa_ix (u65 hr) sa_var sa_var) (sa_ix (u65 hr) sa_var sa_var)) bl_cmp) (sss_cons (ss_ret sa_bl) sss_nil) sss_nil) sss_nil))))) (sss_cons (ss_set (sa_call (ok_trades_giving W) (hr.mono (by decide)) W.g_trades_giving W.F_trades_giving.kp W.b_trades_giving (sas_cons sa_var sas_nil)) hN) (sss_cons (ss_ret (sa_and (sa_call (ok__law_is_ints W) (hr.mono (by decide)) W.g__law_is_ints W.F__law_is_ints.kp W.b__law_is_ints (sas_cons sa_var sas_nil)) (sa_one (sa_cmp (op_eqD (u64 hr)) s_eq (nomark _) sa_var sa_var)))) sss_nil)))))))))))))) : SSs _ _ m_law_k17)
end
end P_k17

namespace P_k17
open Z PySem PySem.Spec PyProof.Rows L2 S
def h_best_left : He.DefD := ⟨("best_left", none), "best_left", "best_left", defArgs (top 2), defBody (top 2), defScope (top 2), [], []⟩
def h_pointers : He.DefD := ⟨("pointers", none), "pointers", "pointers", defArgs (top 4), defBody (top 4), defScope (top 4), [], []⟩
def h_is_on_ring : He.DefD := ⟨("is_on_ring", none), "is_on_ring", "is_on_ring", defArgs (top 5), defBody (top 5), defScope (top 5), [], []⟩
def h_ring_members : He.DefD := ⟨("ring_members", none), "ring_members", "ring_members", defArgs (top 6), defBody (top 6), defScope (top 6), [], []⟩
def h_trades_giving : He.DefD := ⟨("trades_giving", none), "trades_giving", "trades_giving", defArgs (top 7), defBody (top 7), defScope (top 7), [], []⟩
def h__law_begin : He.DefD := ⟨("_law_begin", none), "_law_begin", "_law_begin", defArgs (top 9), defBody (top 9), defScope (top 9), [], []⟩
def h__law_draw : He.DefD := ⟨("_law_draw", none), "_law_draw", "_law_draw", defArgs (top 10), defBody (top 10), defScope (top 10), [], []⟩
def h__law_pick : He.DefD := ⟨("_law_pick", none), "_law_pick", "_law_pick", defArgs (top 11), defBody (top 11), defScope (top 11), [], []⟩
def h__law_shuffled : He.DefD := ⟨("_law_shuffled", none), "_law_shuffled", "_law_shuffled", defArgs (top 12), defBody (top 12), defScope (top 12), [], []⟩
def h__law_is_int : He.DefD := ⟨("_law_is_int", none), "_law_is_int", "_law_is_int", defArgs (top 13), defBody (top 13), defScope (top 13), [], []⟩
def h__law_is_ints : He.DefD := ⟨("_law_is_ints", none), "_law_is_ints", "_law_is_ints", defArgs (top 14), defBody (top 14), defScope (top 14), [], []⟩
def h__law_listing : He.DefD := ⟨("_law_listing", none), "_law_listing", "_law_listing", defArgs (top 15), defBody (top 15), defScope (top 15), [], []⟩
def h__law_listings : He.DefD := ⟨("_law_listings", none), "_law_listings", "_law_listings", defArgs (top 16), defBody (top 16), defScope (top 16), [], []⟩
def h__law_best : He.DefD := ⟨("_law_best", none), "_law_best", "_law_best", defArgs (top 17), defBody (top 17), defScope (top 17), [], []⟩
def h__law_rings : He.DefD := ⟨("_law_rings", none), "_law_rings", "_law_rings", defArgs (top 18), defBody (top 18), defScope (top 18), [], []⟩
def h__law_arranged : He.DefD := ⟨("_law_arranged", none), "_law_arranged", "_law_arranged", defArgs (top 19), defBody (top 19), defScope (top 19), [], []⟩
def h__law_groups : He.DefD := ⟨("_law_groups", none), "_law_groups", "_law_groups", defArgs (top 20), defBody (top 20), defScope (top 20), [], []⟩
def h__law_is_bettered : He.DefD := ⟨("_law_is_bettered", none), "_law_is_bettered", "_law_is_bettered", defArgs (top 21), defBody (top 21), defScope (top 21), [], []⟩
def h_law : He.DefD := ⟨("law", none), "law", "law", defArgs (top 22), defBody (top 22), defScope (top 22), [], []⟩
def fn : List He.DefD := [h_best_left, h_pointers, h_is_on_ring, h_ring_members, h_trades_giving, h__law_begin, h__law_draw, h__law_pick, h__law_shuffled, h__law_is_int, h__law_is_ints, h__law_listing, h__law_listings, h__law_best, h__law_rings, h__law_arranged, h__law_groups, h__law_is_bettered, h_law]
def fa : List He.Fa := (([.glo "best_left", .glo "pointers", .glo "is_on_ring", .glo "ring_members", .glo "trades_giving", .glo "_law_begin", .glo "_law_draw", .glo "_law_pick", .glo "_law_shuffled", .glo "_law_is_int", .glo "_law_is_ints", .glo "_law_listing", .glo "_law_listings", .glo "_law_best", .glo "_law_rings", .glo "_law_arranged"] : List He.Fa) ++ ([.glo "_law_groups", .glo "_law_is_bettered", .glo "law", .free "abs", .free "all", .free "bool", .free "int", .free "isinstance", .free "len", .free "list", .free "max", .free "min", .free "range", .free "sorted", .free "tuple", .int "NOTHING" (-1)] : List He.Fa))
abbrev R : PySem.W.OpenRow := PySem.W.OpenLaw.row PySem.Challenge.rw_plainhearing_k17_trades
abbrev hk : PySem.W.Hook := He.hookD 2 fa fn
def ob (s : PySem.W.SharedT) : He.AlD := He.obsDG 2 fa fn (HandSHeadRun.getT s)
theorem ob_eq (s : PySem.W.SharedT) : ob s = hk.obs s.abs := He.obsDG_eq (HandSHeadRun.getT_eq s)
theorem run (w : World) : HandSHeadRun.RunEq R (PySem.W.view R.prog [22]) hk ob 2380 ((["NOTHING", "best_left", "pointers", "is_on_ring", "ring_members", "trades_giving", "_law_begin", "_law_draw", "_law_pick", "_law_shuffled", "_law_is_int", "_law_is_ints", "_law_listing", "_law_listings", "_law_best", "_law_rings"] : List PySem.Str) ++ (["_law_arranged", "_law_groups", "_law_is_bettered"] : List PySem.Str)) w := by
  intro os
  kernel_rfl
theorem facts {P : Program} {w : World} {K : PySem.W.Frag} {h : Heap} {mg : Str → Option Value} {f : Addr} (X : K.In h) (G : h.Ns mainGlobals mg) (hfa : mg ("law" : Str) = some (.ref f)) (c : He.SaysD fa fn K) :
    ∃ fd : FuncData, (∀ (s : Shared) (v : Value), BindsTo s fd ⟨[v], []⟩ [("script", v)]) ∧ ∀ base : Heap, K.In base → base.Ns mainGlobals mg → FnOkG P w K mg base CX0 5 f fd ["script"] (spD K 1 c_law_k17) := by
  obtain ⟨d_best_left, F_best_left⟩ := c.def_ 0 (d := h_best_left) rfl
  obtain ⟨d_pointers, F_pointers⟩ := c.def_ 1 (d := h_pointers) rfl
  obtain ⟨d_is_on_ring, F_is_on_ring⟩ := c.def_ 2 (d := h_is_on_ring) rfl
  obtain ⟨d_ring_members, F_ring_members⟩ := c.def_ 3 (d := h_ring_members) rfl
  obtain ⟨d_trades_giving, F_trades_giving⟩ := c.def_ 4 (d := h_trades_giving) rfl
  obtain ⟨d__law_begin, F__law_begin⟩ := c.def_ 5 (d := h__law_begin) rfl
  obtain ⟨d__law_draw, F__law_draw⟩ := c.def_ 6 (d := h__law_draw) rfl
  obtain ⟨d__law_pick, F__law_pick⟩ := c.def_ 7 (d := h__law_pick) rfl
  obtain ⟨d__law_shuffled, F__law_shuffled⟩ := c.def_ 8 (d := h__law_shuffled) rfl
  obtain ⟨d__law_is_int, F__law_is_int⟩ := c.def_ 9 (d := h__law_is_int) rfl
  obtain ⟨d__law_is_ints, F__law_is_ints⟩ := c.def_ 10 (d := h__law_is_ints) rfl
  obtain ⟨d__law_listing, F__law_listing⟩ := c.def_ 11 (d := h__law_listing) rfl
  obtain ⟨d__law_listings, F__law_listings⟩ := c.def_ 12 (d := h__law_listings) rfl
  obtain ⟨d__law_best, F__law_best⟩ := c.def_ 13 (d := h__law_best) rfl
  obtain ⟨d__law_rings, F__law_rings⟩ := c.def_ 14 (d := h__law_rings) rfl
  obtain ⟨d__law_arranged, F__law_arranged⟩ := c.def_ 15 (d := h__law_arranged) rfl
  obtain ⟨d__law_groups, F__law_groups⟩ := c.def_ 16 (d := h__law_groups) rfl
  obtain ⟨d__law_is_bettered, F__law_is_bettered⟩ := c.def_ 17 (d := h__law_is_bettered) rfl
  obtain ⟨d_law, F_law⟩ := c.def_ 18 (d := h_law) rfl
  have e := hfa.symm.trans (He.glo_ok X G (c.fact 18 (f := .glo "law") rfl))
  cases e
  have b := FunD.bindsA (ps := ["script"]) F_law fun _ _ _ _ _ _ us hl => match us, hl with | [_], _ => rfl
  refine ⟨d_law, fun s v => b s [v] rfl, fun base _ _ => ?_⟩
  exact ok_law {
    a_best_left := _, d_best_left := d_best_left, F_best_left := F_best_left, g_best_left := He.glo_ok X G (c.fact 0 (f := .glo "best_left") rfl), b_best_left := (FunD.bindsN F_best_left fun _ _ _ _ _ _ us hl => match us, hl with | [_, _], _ => rfl),
    a_pointers := _, d_pointers := d_pointers, F_pointers := F_pointers, g_pointers := He.glo_ok X G (c.fact 1 (f := .glo "pointers") rfl), b_pointers := (FunD.bindsN F_pointers fun _ _ _ _ _ _ us hl => match us, hl with | [_, _], _ => rfl),
    a_is_on_ring := _, d_is_on_ring := d_is_on_ring, F_is_on_ring := F_is_on_ring, g_is_on_ring := He.glo_ok X G (c.fact 2 (f := .glo "is_on_ring") rfl), b_is_on_ring := (FunD.bindsN F_is_on_ring fun _ _ _ _ _ _ us hl => match us, hl with | [_, _], _ => rfl),
    a_ring_members := _, d_ring_members := d_ring_members, F_ring_members := F_ring_members, g_ring_members := He.glo_ok X G (c.fact 3 (f := .glo "ring_members") rfl), b_ring_members := (FunD.bindsN F_ring_members fun _ _ _ _ _ _ us hl => match us, hl with | [_], _ => rfl),
    a_trades_giving := _, d_trades_giving := d_trades_giving, F_trades_giving := F_trades_giving, g_trades_giving := He.glo_ok X G (c.fact 4 (f := .glo "trades_giving") rfl), b_trades_giving := (FunD.bindsN F_trades_giving fun _ _ _ _ _ _ us hl => match us, hl with | [_], _ => rfl),
    a__law_begin := _, d__law_begin := d__law_begin, F__law_begin := F__law_begin, g__law_begin := He.glo_ok X G (c.fact 5 (f := .glo "_law_begin") rfl), b__law_begin := (FunD.bindsN F__law_begin fun _ _ _ _ _ _ us hl => match us, hl with | [_], _ => rfl),
    a__law_draw := _, d__law_draw := d__law_draw, F__law_draw := F__law_draw, g__law_draw := He.glo_ok X G (c.fact 6 (f := .glo "_law_draw") rfl), b__law_draw := (FunD.bindsN F__law_draw fun _ _ _ _ _ _ us hl => match us, hl with | [_, _], _ => rfl),
    a__law_pick := _, d__law_pick := d__law_pick, F__law_pick := F__law_pick, g__law_pick := He.glo_ok X G (c.fact 7 (f := .glo "_law_pick") rfl), b__law_pick := (FunD.bindsN F__law_pick fun _ _ _ _ _ _ us hl => match us, hl with | [_, _], _ => rfl),
    a__law_shuffled := _, d__law_shuffled := d__law_shuffled, F__law_shuffled := F__law_shuffled, g__law_shuffled := He.glo_ok X G (c.fact 8 (f := .glo "_law_shuffled") rfl), b__law_shuffled := (FunD.bindsN F__law_shuffled fun _ _ _ _ _ _ us hl => match us, hl with | [_, _], _ => rfl),
    a__law_is_int := _, d__law_is_int := d__law_is_int, F__law_is_int := F__law_is_int, g__law_is_int := He.glo_ok X G (c.fact 9 (f := .glo "_law_is_int") rfl), b__law_is_int := (FunD.bindsN F__law_is_int fun _ _ _ _ _ _ us hl => match us, hl with | [_], _ => rfl),
    a__law_is_ints := _, d__law_is_ints := d__law_is_ints, F__law_is_ints := F__law_is_ints, g__law_is_ints := He.glo_ok X G (c.fact 10 (f := .glo "_law_is_ints") rfl), b__law_is_ints := (FunD.bindsN F__law_is_ints fun _ _ _ _ _ _ us hl => match us, hl with | [_], _ => rfl),
    a__law_listing := _, d__law_listing := d__law_listing, F__law_listing := F__law_listing, g__law_listing := He.glo_ok X G (c.fact 11 (f := .glo "_law_listing") rfl), b__law_listing := (FunD.bindsN F__law_listing fun _ _ _ _ _ _ us hl => match us, hl with | [_, _], _ => rfl),
    a__law_listings := _, d__law_listings := d__law_listings, F__law_listings := F__law_listings, g__law_listings := He.glo_ok X G (c.fact 12 (f := .glo "_law_listings") rfl), b__law_listings := (FunD.bindsN F__law_listings fun _ _ _ _ _ _ us hl => match us, hl with | [_, _], _ => rfl),
    a__law_best := _, d__law_best := d__law_best, F__law_best := F__law_best, g__law_best := He.glo_ok X G (c.fact 13 (f := .glo "_law_best") rfl), b__law_best := (FunD.bindsN F__law_best fun _ _ _ _ _ _ us hl => match us, hl with | [_, _], _ => rfl),
    a__law_rings := _, d__law_rings := d__law_rings, F__law_rings := F__law_rings, g__law_rings := He.glo_ok X G (c.fact 14 (f := .glo "_law_rings") rfl), b__law_rings := (FunD.bindsN F__law_rings fun _ _ _ _ _ _ us hl => match us, hl with | [_], _ => rfl),
    a__law_arranged := _, d__law_arranged := d__law_arranged, F__law_arranged := F__law_arranged, g__law_arranged := He.glo_ok X G (c.fact 15 (f := .glo "_law_arranged") rfl), b__law_arranged := (FunD.bindsN F__law_arranged fun _ _ _ _ _ _ us hl => match us, hl with | [_], _ => rfl),
    a__law_groups := _, d__law_groups := d__law_groups, F__law_groups := F__law_groups, g__law_groups := He.glo_ok X G (c.fact 16 (f := .glo "_law_groups") rfl), b__law_groups := (FunD.bindsN F__law_groups fun _ _ _ _ _ _ us hl => match us, hl with | [_], _ => rfl),
    a__law_is_bettered := _, d__law_is_bettered := d__law_is_bettered, F__law_is_bettered := F__law_is_bettered, g__law_is_bettered := He.glo_ok X G (c.fact 17 (f := .glo "_law_is_bettered") rfl), b__law_is_bettered := (FunD.bindsN F__law_is_bettered fun _ _ _ _ _ _ us hl => match us, hl with | [_, _, _], _ => rfl),
    a_law := _, d_law := d_law, F_law := F_law, g_law := He.glo_ok X G (c.fact 18 (f := .glo "law") rfl), b_law := (FunD.bindsN F_law fun _ _ _ _ _ _ us hl => match us, hl with | [_], _ => rfl),
    n_abs := He.free_ok X G (c.fact 19 (f := .free "abs") rfl),
    n_all := He.free_ok X G (c.fact 20 (f := .free "all") rfl),
    n_bool := He.free_ok X G (c.fact 21 (f := .free "bool") rfl),
    n_int := He.free_ok X G (c.fact 22 (f := .free "int") rfl),
    n_isinstance := He.free_ok X G (c.fact 23 (f := .free "isinstance") rfl),
    n_len := He.free_ok X G (c.fact 24 (f := .free "len") rfl),
    n_list := He.free_ok X G (c.fact 25 (f := .free "list") rfl),
    n_max := He.free_ok X G (c.fact 26 (f := .free "max") rfl),
    n_min := He.free_ok X G (c.fact 27 (f := .free "min") rfl),
    n_range := He.free_ok X G (c.fact 28 (f := .free "range") rfl),
    n_sorted := He.free_ok X G (c.fact 29 (f := .free "sorted") rfl),
    n_tuple := He.free_ok X G (c.fact 30 (f := .free "tuple") rfl),
    k_NOTHING := He.int_ok X G (c.fact 31 (f := .int "NOTHING" (-1)) rfl) }
theorem end_ (pure_law : ∀ ns : List Int, ns.length ≤ 63 → ∃ fs, c_law_k17 [⟨.scr (ns.map D.int), 0⟩] = .ok (Cell.fz (.bl true), fs)) : PySem.Challenge.rw_plainhearing_k17_trades.Holds := by
  open PySem.W PySem.Calls in
  w_on; o_law
  refine HandSHeadRun.head_any (r := OpenLaw.row PySem.Challenge.rw_plainhearing_k17_trades) (q := view (OpenLaw.row PySem.Challenge.rw_plainhearing_k17_trades).prog [22]) (H := hk) (ob := ob) (M := 2380) (loose := ((["NOTHING", "best_left", "pointers", "is_on_ring", "ring_members", "trades_giving", "_law_begin", "_law_draw", "_law_pick", "_law_shuffled", "_law_is_int", "_law_is_ints", "_law_listing", "_law_listings", "_law_best", "_law_rings"] : List PySem.Str) ++ (["_law_arranged", "_law_groups", "_law_is_bettered"] : List PySem.Str))) (d := HandSHeadRun.topDef (OpenLaw.row PySem.Challenge.rw_plainhearing_k17_trades).prog 22) (kwd := []) ob_eq
    (by kernel_rfl) (fun s => by kernel_rfl) run (by kernel_rfl) (by kernel_rfl) (by kernel_rfl) (by rfl) (by first | assumption | decide +kernel) (by decide +kernel) ⟨rfl, rfl, rfl, rfl, rfl, by decide +kernel⟩ ?hw ?hc
  case hw => w_witness2
  case hc =>
    refine Z.walk_ofG (l := PySem.Challenge.rw_plainhearing_k17_trades) (n := 63) (lv := 5) (x := "script") (C := L2.CX0) rfl (by decide) (by kernel_rfl) ⟨rfl, by decide, by decide⟩ ?F (fun _ _ _ _ z => z)
    intro w mg fa h Y G hmg0
    obtain ⟨K, KX, c⟩ := Y
    have hmg : mg ("law" : PySem.Str) = some (.ref fa) := by
      have e : (HandSHeadRun.topDef (OpenLaw.row PySem.Challenge.rw_plainhearing_k17_trades).prog 22).name = ("law" : PySem.Str) := by kernel_rfl
      rw [← e]
      exact hmg0
    obtain ⟨fd, hb, hF⟩ := facts (P := (PySem.Challenge.rw_plainhearing_k17_trades).prog) (w := w) KX G hmg c
    exact ⟨K, fd, spD K 1 c_law_k17, KX, hb, fun H a ns hl _ hS => (pure_law ns hl).elim fun fs h => law_sp hS h, hF⟩
end P_k17

/-! S: boxes and rows. -/
namespace S
open Z PySem PySem.Spec PyProof.Rows L2
@[simp] theorem eq_draw : c__law_draw = c_draw := rfl
@[simp] theorem eq_begin : c__law_begin = c_begin := rfl
@[simp] theorem eq_pick : c__law_pick = c_pick := rfl
@[simp] theorem eq_shuffled : c__law_shuffled = c_shuffled := rfl
@[simp] theorem eq_is_int : c__law_is_int = c_is_int := rfl
@[simp] theorem eq_is_ints : c__law_is_ints = c_is_ints := rfl
end S

/-! S: houses, values, cases. -/
namespace S
open Z PySem PySem.Spec PyProof.Rows L2
structure Kind where
  name : Str
  worths : List (List Int)
  deriving Inhabited
structure Prsn where
  name : Str
  kinds : List Kind
  watches : List Nat
  deriving Inhabited
structure End where
  out : Nat
  pays : List Int
  deriving Inhabited, DecidableEq
structure House where
  told : List Str
  persons : List Prsn
  ends : List End
  slack : Int
  deriving Inhabited
abbrev Box := List (List Nat)
abbrev Row := List Nat
def End.d (e : End) : D := .tup [.int e.out, iD e.pays]
def Kind.d (k : Kind) : D := .tup [.str k.name, .tup (k.worths.map iD)]
def Prsn.d (p : Prsn) : D := .tup [.str p.name, .tup (p.kinds.map Kind.d), nD p.watches]
def House.d (h : House) : D := .tup [.str "house", .tup (h.told.map D.str), .tup (h.persons.map Prsn.d), .tup (h.ends.map End.d), .int h.slack]
def Box.d (b : Box) : D := .tup (b.map nD)
def House.kinds (h : House) (p : Nat) : List Kind := (h.persons.getD p default).kinds
def House.worths (h : House) (p k : Nat) : List (List Int) := ((h.kinds p).getD k default).worths
def House.row (h : House) (p k j : Nat) : List Int := (h.worths p k).getD j []
section
variable {h : House} {p k j : Nat} {e : End}
/-- the value of an end by numbers -/
def val (ns : List Int) (p : Nat) (e : End) : Int := ns.getD e.out 0 - e.pays.getD p 0
end
/-- a box that may be walked -/
structure BoxOk (b : Box) : Prop where
  len : b.length ≤ 8
  part : ∀ q ∈ b, q.length ≤ 8
section
variable {h : House} {b : Box} {p : Nat}
end
end S

/-! S: the houses that the laws draw. -/
namespace S
open Z PySem PySem.Spec PyProof.Rows L2
/-- numbers up to a million million -/
def Bd (i : Int) : Prop := -1000000000000 ≤ i ∧ i ≤ 1000000000000
end S

/-! S: drawing loops, houses. -/
namespace S
open Z PySem PySem.Spec PyProof.Rows L2
section
variable {α β σ : Type}
end
/-! ### what is drawn -/
structure KindOk (out : Nat) (k : Kind) : Prop where
  n1 : 1 ≤ k.worths.length
  n3 : k.worths.length ≤ 3
  row : ∀ ns ∈ k.worths, ns.length = out ∧ ∀ i ∈ ns, Bd i
structure PrsnOk (np out p size : Nat) (q : Prsn) : Prop where
  nk : q.kinds.length = size
  kind : ∀ k ∈ q.kinds, KindOk out k
  asc : q.watches.Pairwise (· < ·)
  wat : ∀ o ∈ q.watches, o < np ∧ o ≠ p
structure EndOk (np out : Nat) (e : End) : Prop where
  out : e.out < out
  len : e.pays.length = np
  bd : ∀ i ∈ e.pays, Bd i
def rowsN (sizes : List Nat) : Nat := sizes.foldr (· * ·) 1
structure HouseOk (h : House) (sizes : List Nat) : Prop where
  np : h.persons.length = sizes.length
  prs : ∀ (p : Nat) (q : Prsn), h.persons[p]? = some q → PrsnOk sizes.length h.told.length p (sizes.getD p 0) q
  t1 : 1 ≤ h.told.length
  t24 : h.told.length ≤ 24
  ne : h.ends.length = rowsN sizes
  en : ∀ e ∈ h.ends, EndOk sizes.length h.told.length e
  s0 : 0 ≤ h.slack
  s1 : h.slack ≤ 4000000000000
structure SizesOk (sizes : List Nat) : Prop where
  n1 : 1 ≤ sizes.length
  n4 : sizes.length ≤ 4
  s : ∀ x ∈ sizes, 1 ≤ x ∧ x ≤ 8
  rows : rowsN sizes ≤ 256
section
variable {l : List D} {sizes : List Nat} {out worths np pay : Nat} {c1 c2 c3 c4 c5 c6 c7 c8 c9 c10 c11 c12 c13 c14 c15 c16 c17 c18 c19 : Option Cell}
end
end S

/-! S: the drawn house as a whole. -/
namespace S
open Z PySem PySem.Spec PyProof.Rows L2
@[simp] theorem isN_non {k k' : Nat} : fIsN [⟨.non, k⟩, ⟨.non, k'⟩] = .ok ⟨.bl true, 0⟩ := rfl
@[simp] theorem isN_tup {l : List D} {k k' : Nat} : fIsN [⟨.tup l, k⟩, ⟨.non, k'⟩] = .ok ⟨.bl false, 0⟩ := rfl
@[simp] theorem isN_int {i : Int} {k k' : Nat} : fIsN [⟨.int i, k⟩, ⟨.non, k'⟩] = .ok ⟨.bl false, 0⟩ := rfl
@[simp] theorem notN_non {k k' : Nat} : fNotN [⟨.non, k⟩, ⟨.non, k'⟩] = .ok ⟨.bl false, 0⟩ := rfl
@[simp] theorem notN_tup {l : List D} {k k' : Nat} : fNotN [⟨.tup l, k⟩, ⟨.non, k'⟩] = .ok ⟨.bl true, 0⟩ := rfl
@[simp] theorem notN_int {i : Int} {k k' : Nat} : fNotN [⟨.int i, k⟩, ⟨.non, k'⟩] = .ok ⟨.bl true, 0⟩ := rfl
section
variable {l : List D} {sizes : List Nat} {out worths np pay : Nat} {c1 c2 c3 c4 c5 c6 c7 c8 c9 c10 c11 c12 c13 c14 c15 c16 c17 c18 c19 : Option Cell}
end
end S

/-! S: the drawn house. -/
namespace S
open Z PySem PySem.Spec PyProof.Rows L2
end S

/-! S: sizes, whole boxes, cases, drawn boxes. -/
namespace S
open Z PySem PySem.Spec PyProof.Rows L2
/-! drawn boxes -/
structure BoxIn (b w : Box) : Prop where
  len : b.length = w.length
  sub : ∀ (i : Nat) (q z : List Nat), b[i]? = some q → w[i]? = some z → q.Sublist z ∧ q ≠ []
end S

/-! S: wide houses. -/
namespace S
open Z PySem PySem.Spec PyProof.Rows L2
theorem perm_nL {x : List D} {b : List Nat} (h : x.Perm (nL b)) : ∃ a, x = nL a ∧ a.Perm b := by
  generalize hy : nL b = y at h
  induction h generalizing b with
  | nil => exact ⟨[], rfl, by
      cases b with
      | nil => exact List.Perm.refl _
      | cons _ _ => cases hy⟩
  | cons x _ ih =>
    cases b with
    | nil => cases hy
    | cons c r =>
      cases hy
      obtain ⟨a, e, hp⟩ := ih rfl
      exact ⟨c :: a, by rw [e]; rfl, hp.cons c⟩
  | swap x y l =>
    cases b with
    | nil => cases hy
    | cons c r =>
      cases r with
      | nil => cases hy
      | cons c2 r =>
        cases hy
        exact ⟨c2 :: c :: r, rfl, List.Perm.swap _ _ _⟩
  | trans _ _ ih1 ih2 =>
    obtain ⟨a, e, hp⟩ := ih2 hy
    obtain ⟨a2, e2, hp2⟩ := ih1 e.symm
    exact ⟨a2, e2, hp2.trans hp⟩
end S

/-! S: wide houses as a whole. -/
namespace S
open Z PySem PySem.Spec PyProof.Rows L2
section
variable {l : List D} {sizes : List Nat} {out np : Nat} {sc : Int} {c1 c2 c3 c4 c5 c6 c7 c8 c9 c10 c11 c12 c13 c14 c15 c16 c17 c18 : Option Cell}
end
end S

/-! S: hearings. -/
namespace S
open Z PySem PySem.Spec PyProof.Rows L2
inductive Hr where
  | fin
  | ask (p : Nat) (rows : List (List Nat × Hr))
theorem Hr.ind {P : Hr → Prop} (h0 : P .fin) (h1 : ∀ p rows, (∀ r ∈ rows, P r.2) → P (.ask p rows)) : ∀ h, P h
  | .fin => h0
  | .ask p rows => h1 p rows fun r hr => Hr.ind h0 h1 r.2
termination_by h => sizeOf h
decreasing_by
  have := List.sizeOf_lt_of_mem hr
  obtain ⟨a, b⟩ := r
  simp at this ⊢
  omega
def Hr.d : Hr → D
  | .fin => .tup [.str "end"]
  | .ask p rows => .tup [.str "ask", .int (p : Int), .tup (rows.attach.map fun ⟨r, _⟩ => .tup [nD r.1, r.2.d])]
termination_by h => sizeOf h
decreasing_by
  rename_i hr
  have := List.sizeOf_lt_of_mem hr
  obtain ⟨a, b⟩ := r
  simp at this ⊢
  omega
/-- nodes in the order in which a stack gives them -/
def Hr.nodes : Hr → List Nat → Box → List (List Nat × Box × Hr)
  | .fin, path, b => [(path, b, .fin)]
  | .ask p rows, path, b => (path, b, .ask p rows) :: (rows.attach.zipIdx.map fun (⟨r, _⟩, k) => r.2.nodes (path ++ [k]) (b.set p r.1)).flatten
termination_by h => sizeOf h
decreasing_by
  rename_i hr
  have := List.sizeOf_lt_of_mem hr
  obtain ⟨a, b⟩ := r
  simp at this ⊢
  omega
theorem Hr.nodes_fin {path : List Nat} {b : Box} : Hr.fin.nodes path b = [(path, b, .fin)] := by unfold Hr.nodes; rfl
def subNodes (p : Nat) (path : List Nat) (b : Box) (x : (List Nat × Hr) × Nat) : List (List Nat × Box × Hr) := x.1.2.nodes (path ++ [x.2]) (b.set p x.1.1)
theorem Hr.nodes_ask {p : Nat} {rows : List (List Nat × Hr)} {path : List Nat} {b : Box} : (Hr.ask p rows).nodes path b = (path, b, .ask p rows) :: (rows.zipIdx.map (subNodes p path b)).flatten := by
  conv => lhs; unfold Hr.nodes
  congr 2
  refine List.ext_getElem (by simp) fun i h1 h2 => ?_
  simp [subNodes]
/-- a hearing of a box -/
inductive HearOk : Box → Hr → Prop
  | fin {b : Box} : HearOk b .fin
  | ask {b : Box} {p : Nat} {rows : List (List Nat × Hr)} : p < b.length → 2 ≤ rows.length → (∀ r ∈ rows, r.1 ≠ [] ∧ r.1.Sublist (b.getD p [])) → (rows.map (·.1)).flatten.Perm (b.getD p []) → (∀ r ∈ rows, HearOk (b.set p r.1) r.2) → HearOk b (.ask p rows)
end S

/-! S: parts of a share. -/
namespace S
open Z PySem PySem.Spec PyProof.Rows L2
theorem ixN_nat' {n j : Nat} (hj : j < n) : ixN n (j : Int) = some j := by
  unfold ixN
  rw [if_pos (by omega), if_pos (by omega)]
  simp
structure PartsOk (ps : List (List Nat)) (done : List Nat) : Prop where
  el : ∀ q ∈ ps, q ≠ [] ∧ q.Sublist done
  pm : ps.flatten.Perm done
theorem PartsOk.len {ps : List (List Nat)} {done : List Nat} (h : PartsOk ps done) : ps.length ≤ done.length := by
  rw [← h.pm.length_eq]
  have : ∀ q ∈ ps, q ≠ [] := fun q hq => (h.el q hq).1
  clear h
  induction ps with
  | nil => simp
  | cons a r ih =>
    have h1 := ih fun q hq => this q (List.mem_cons_of_mem _ hq)
    have h2 : 0 < a.length := List.length_pos_iff.mpr (this a (List.mem_cons_self ..))
    rw [List.flatten_cons, List.length_append, List.length_cons]
    omega
end S

/-! S: the drawn hearing. -/
namespace S
open Z PySem PySem.Spec PyProof.Rows L2
/-- the two parts: the first and the rest -/
theorem PartsOk.two {q : List Nat} {ps : List (List Nat)} {ks : List Nat} (h : PartsOk (q :: ps) ks) (hn : ks.Nodup) (h2 : 2 ≤ (q :: ps).length) : PartsOk [q, ks.filter fun k => decide (k ∉ q)] ks := by
  have hp := h.pm
  rw [List.flatten_cons] at hp
  have hnd : (q ++ ps.flatten).Nodup := hp.nodup_iff.mpr hn
  have e1 : q.filter (fun k => decide (k ∉ q)) = [] := by
    rw [List.filter_eq_nil_iff]
    intro a ha
    simp [ha]
  have e2 : ps.flatten.filter (fun k => decide (k ∉ q)) = ps.flatten := by
    rw [List.filter_eq_self]
    intro a ha
    have := (List.nodup_append.mp hnd).2.2
    simp only [decide_eq_true_eq]
    intro z
    exact this a z a ha rfl
  have hf := hp.filter fun k => decide (k ∉ q)
  rw [List.filter_append, e1, e2, List.nil_append] at hf
  refine ⟨fun z hz => ?_, ?_⟩
  · simp only [List.mem_cons, List.not_mem_nil, or_false] at hz
    rcases hz with rfl | rfl
    · exact h.el _ (List.mem_cons_self ..)
    · refine ⟨fun z => ?_, List.filter_sublist⟩
      rw [z] at hf
      cases ps with
      | nil => simp at h2
      | cons a r =>
        have h3 := (h.el a (by simp)).1
        have := hf.length_eq
        rw [List.flatten_cons, List.length_append] at this
        have h4 := List.length_pos_iff.mpr h3
        simp only [List.length_nil] at this
        omega
  · simp only [List.flatten_cons, List.flatten_nil, List.append_nil]
    exact (hf.symm.append_left q).trans hp
/-! many leaves -/
def Hr.many : Hr → Nat
  | .fin => 1
  | .ask _ rows => (rows.attach.map fun ⟨r, _⟩ => r.2.many).sum
termination_by h => sizeOf h
decreasing_by
  rename_i hr
  have := List.sizeOf_lt_of_mem hr
  obtain ⟨a, b⟩ := r
  simp at this ⊢
  omega
theorem Hr.many_fin : Hr.fin.many = 1 := by unfold Hr.many; rfl
theorem Hr.many_ask {p : Nat} {rows : List (List Nat × Hr)} : (Hr.ask p rows).many = (rows.map fun r => r.2.many).sum := by
  conv => lhs; unfold Hr.many
  congr 1
  refine List.ext_getElem (by simp) fun i h1 h2 => ?_
  simp
end S

namespace S
open Z PySem PySem.Spec PyProof.Rows L2
theorem getD_set_ne' {b : Box} {p i : Nat} {q : List Nat} (h : i ≠ p) : (b.set p q).getD i [] = b.getD i [] := by
  simp [List.getD_eq_getElem?_getD, List.getElem?_set_ne (Ne.symm h)]
end S

namespace S
open Z PySem PySem.Spec PyProof.Rows L2
instance : Inhabited Hr := ⟨.fin⟩
theorem nodes_pos {h : Hr} {path : List Nat} {b : Box} : 1 ≤ (h.nodes path b).length := by
  cases h with
  | fin => rw [Hr.nodes_fin]; simp
  | ask p rows => rw [Hr.nodes_ask]; simp
theorem nodes_many {h : Hr} : ∀ {b : Box} {path : List Nat}, HearOk b h → (h.nodes path b).length + 1 ≤ 2 * h.many := by
  induction h using Hr.ind with
  | h0 => intro b path _; rw [Hr.nodes_fin, Hr.many_fin]; simp
  | h1 p rows ih =>
    intro b path hok
    cases hok with
    | ask hp h2 _ _ hsub =>
      rw [Hr.nodes_ask, Hr.many_ask, List.length_cons, List.length_flatten, List.map_map]
      have key : ∀ (rs : List (List Nat × Hr)) (j : Nat), (∀ r ∈ rs, r ∈ rows) → ((rs.zipIdx j).map (List.length ∘ subNodes p path b)).sum + rs.length ≤ 2 * (rs.map fun r => r.2.many).sum := by
        intro rs
        induction rs with
        | nil => intro j _; simp
        | cons r rs ih2 =>
          intro j hr
          have h3 := ih2 (j + 1) fun x hx => hr x (List.mem_cons_of_mem _ hx)
          have hr0 := hr r (List.mem_cons_self ..)
          have h4 := ih r hr0 (b := b.set p r.1) (path := path ++ [j]) (hsub r hr0)
          have h5 : (subNodes p path b (r, j)).length = (r.2.nodes (path ++ [j]) (b.set p r.1)).length := rfl
          simp only [List.zipIdx_cons, List.map_cons, List.sum_cons, Function.comp_apply, List.length_cons, h5]
          omega
      have := key rows 0 fun r h => h
      omega
end S

namespace S
open Z PySem PySem.Spec PyProof.Rows L2
/-! a row's way -/
inductive Way : Hr → Row → List (Nat × List Nat) → List Nat → Prop
  | fin {row : Row} : Way .fin row [] []
  | ask {p k : Nat} {rows : List (List Nat × Hr)} {row : Row} {r : List Nat × Hr} {a : List (Nat × List Nat)} {q : List Nat} : rows[k]? = some r → row.getD p 0 ∈ r.1 → Way r.2 row a q → Way (.ask p rows) row ((p, r.1) :: a) (k :: q)
theorem many_pos {h : Hr} : ∀ {b : Box}, HearOk b h → 1 ≤ h.many := by
  intro b hok
  have := nodes_many (path := []) hok
  have := nodes_pos (h := h) (path := []) (b := b)
  omega
theorem many_sub {p : Nat} {rows : List (List Nat × Hr)} {b : Box} (hok : HearOk b (.ask p rows)) {r : List Nat × Hr} (hr : r ∈ rows) : r.2.many < (Hr.ask p rows).many := by
  cases hok with
  | ask hp h2 _ _ hsub =>
    rw [Hr.many_ask]
    have key : ∀ rs : List (List Nat × Hr), (∀ x ∈ rs, x ∈ rows) → rs.length ≤ (rs.map fun x => x.2.many).sum ∧ ∀ x ∈ rs, x.2.many + rs.length ≤ (rs.map fun x => x.2.many).sum + 1 := by
      intro rs
      induction rs with
      | nil => intro _; simp
      | cons a rs ih =>
        intro hx
        obtain ⟨h3, h4⟩ := ih fun x hx2 => hx x (List.mem_cons_of_mem _ hx2)
        have h5 := many_pos (hsub a (hx a (List.mem_cons_self ..)))
        refine ⟨by simp; omega, fun x hxm => ?_⟩
        rcases List.mem_cons.mp hxm with rfl | hxm
        · simp; omega
        · have := h4 x hxm
          simp; omega
    have := (key rows fun _ h => h).2 r hr
    omega
def InBox (row : Row) (b : Box) : Prop := ∀ i, i < b.length → row.getD i 0 ∈ b.getD i []
theorem InBox.set {row : Row} {b : Box} {p : Nat} {q : List Nat} (h : InBox row b) (hq : row.getD p 0 ∈ q) : InBox row (b.set p q) := by
  intro i hi
  rw [List.length_set] at hi
  by_cases hip : i = p
  · subst hip
    simpa [List.getD_eq_getElem?_getD, hi] using hq
  · rw [getD_set_ne' hip]
    exact h i hi
structure RunS where
  path : List Nat
  ans : List (Nat × List Nat)
  node : Hr
  box : Box
  c5 : Option Cell
  c6 : Option Cell
end S

namespace S
open Z PySem PySem.Spec PyProof.Rows L2
def Hr.at : Hr → List Nat → Option Hr
  | h, [] => some h
  | .fin, _ :: _ => none
  | .ask _ rows, k :: q => match rows[k]? with
    | some r => r.2.at q
    | none => none
structure PartS where
  node : Hr
  q1 : List Nat
  q2 : List Nat
  c4 : Option Cell
end S

namespace S
open Z PySem PySem.Spec PyProof.Rows L2
theorem setD_n {l : List D} {n : Nat} {d : D} (h : n < l.length) : setD l (n : Int) d = some (l.set n d) := by
  unfold setD
  rw [ixN_nat' h]
  rfl
structure LvOk (h : Hr) (nb : Nat) (lv : List (List Nat × Box)) : Prop where
  at_ : ∀ x ∈ lv, h.at x.1 = some .fin
  box : ∀ x ∈ lv, x.2.length = nb ∧ x.1.length ≤ 1000 ∧ ∀ q ∈ x.2, q.length ≤ 1000
  len : lv.length ≤ 1000
section
variable {h : Hr} {nb p kd : Nat} {lv : List (List Nat × Box)} {w : List Nat} {sl : Int} {l : List D} {vs : List Int} {c8 c9 c10 c11 c12 c13 c14 c15 c16 : Option Cell}
theorem getD_mem' {b : Box} {i : Nat} (hi : i < b.length) : b.getD i [] ∈ b := by simp [List.getElem?_eq_getElem hi]
end
end S

namespace S
open Z PySem PySem.Spec PyProof.Rows L2
section
variable {h : Hr} {lv : List (List Nat × Box)} {l : List D} {sizes : List Nat} {worths pay p : Nat} {sl : Int} {pds : List (List Int)} {w : List Nat}
  {c1 c2 c3 c4 c5 c6 c7 c8 c9 c10 c11 c12 c13 c14 c15 c16 c17 c18 c19 c20 c21 c22 c23 c24 c25 c26 : Option Cell}
def PaysOk (np : Nat) (pds : List (List Int)) : Prop := ∀ q ∈ pds, q.length = np ∧ ∀ i ∈ q, -1000 ≤ i ∧ i ≤ 1000
end
end S

namespace S
open Z PySem PySem.Spec PyProof.Rows L2
section
variable {h : Hr} {lv : List (List Nat × Box)} {l : List D} {sizes : List Nat} {worths pay p : Nat} {sl : Int} {pds : List (List Int)} {w : List Nat}
  {c1 c2 c3 c4 c5 c6 c7 c8 c9 c10 c11 c12 c13 c14 c15 c16 c17 c18 c19 c20 c21 c22 c23 c24 c25 c26 : Option Cell}
structure HhOk (h : Hr) (nb : Nat) (lv : List (List Nat × Box)) (sl : Int) (pds : List (List Int)) : Prop where
  lvk : LvOk h nb lv
  s0 : 0 ≤ sl
  s3 : sl ≤ 3
  pd : pds.length = lv.length
  pok : PaysOk nb pds
  nb1 : nb ≤ 100
end
end S

namespace S
open Z PySem PySem.Spec PyProof.Rows L2
section
variable {h : Hr} {lv : List (List Nat × Box)} {l : List D} {sizes : List Nat} {worths pay p : Nat} {sl : Int} {pds : List (List Int)} {w : List Nat}
  {c0 c1 c2 c3 c4 c5 c6 c7 c8 c9 c10 c11 c12 c13 c14 c15 c16 c17 c18 c19 c20 c21 c22 c23 c24 c25 c26 : Option Cell}
end
end S

namespace S
open Z PySem PySem.Spec PyProof.Rows L2
end S

/-! S: boxes inside the whole one; ends and values of rows. -/
namespace S
open Z PySem PySem.Spec PyProof.Rows L2
/-- a box inside the whole one -/
structure BoxOf (b : Box) (sizes : List Nat) : Prop where
  len : b.length = sizes.length
  nd : ∀ q ∈ b, q.Nodup
  l8 : ∀ q ∈ b, q.length ≤ 8
  x8 : ∀ q ∈ b, ∀ x ∈ q, x < 8
theorem BoxOf.of {b : Box} {sizes : List Nat} (hs : SizesOk sizes) (h : BoxIn b (sizes.map List.range)) : BoxOf b sizes := by
  have key : ∀ q ∈ b, ∃ s ∈ sizes, q.Sublist (List.range s) := fun q hq => by
    obtain ⟨i, hi⟩ := List.mem_iff_getElem?.mp hq
    obtain ⟨hlt, _⟩ := List.getElem?_eq_some_iff.mp hi
    have hl := h.len
    rw [List.length_map] at hl
    have hsi : sizes[i]? = some (sizes[i]'(by omega)) := List.getElem?_eq_getElem (by omega)
    exact ⟨sizes[i]'(by omega), List.getElem_mem _, (h.sub i q (List.range (sizes[i]'(by omega))) hi (by simp [hsi])).1⟩
  refine ⟨by rw [h.len, List.length_map], fun q hq => ?_, fun q hq => ?_, fun q hq x hx => ?_⟩
  all_goals obtain ⟨s, hs2, hsub⟩ := key q hq
  · exact List.Nodup.sublist hsub List.nodup_range
  · have := hsub.length_le
    rw [List.length_range] at this
    have := (hs.s s hs2).2
    omega
  · have := List.mem_range.mp (hsub.subset hx)
    have := (hs.s s hs2).2
    omega
theorem BoxOf.ok {b : Box} {sizes : List Nat} (hs : SizesOk sizes) (h : BoxOf b sizes) : BoxOk b := ⟨by have := hs.n4; rw [h.len]; omega, h.l8⟩
theorem HouseOk.person {h : House} {sizes : List Nat} (ho : HouseOk h sizes) {p : Nat} (hp : p < sizes.length) : PrsnOk sizes.length h.told.length p (sizes.getD p 0) (h.persons.getD p default) :=
  ho.prs p _ (by rw [← ho.np] at hp; simp [List.getElem?_eq_getElem hp])
theorem HouseOk.worth {h : House} {sizes : List Nat} (ho : HouseOk h sizes) {p k : Nat} (hp : p < sizes.length) (hk : k < (h.kinds p).length) : KindOk h.told.length ((h.kinds p).getD k default) :=
  (ho.person hp).kind _ (by show (h.kinds p).getD k default ∈ h.kinds p; simp [List.getElem?_eq_getElem hk])
/-! the number of a row -/
def numL : Nat → List Nat → List Nat → Nat
  | a, s :: ss, x :: xs => numL (a * s + x) ss xs
  | a, _, _ => a
theorem numL_lt : ∀ {ss xs : List Nat} {a A : Nat}, xs.length = ss.length → (∀ i, i < ss.length → xs.getD i 0 < ss.getD i 0) → a < A → numL a ss xs < A * rowsN ss
  | [], [], a, A, _, _, h => by simpa [numL, rowsN] using h
  | [], _ :: _, _, _, h, _, _ => by simp at h
  | _ :: _, [], _, _, h, _, _ => by simp at h
  | s :: ss, x :: xs, a, A, hl, hx, h => by
    have h0 := hx 0 (by simp)
    simp only [List.getD_cons_zero] at h0
    have := numL_lt (ss := ss) (xs := xs) (a := a * s + x) (A := A * s) (by simpa using hl) (fun i hi => by
      have := hx (i + 1) (by simp; omega)
      simpa using this) (by
        have : (a + 1) * s ≤ A * s := Nat.mul_le_mul_right s h
        rw [Nat.add_mul, Nat.one_mul] at this
        omega)
    rw [numL]
    have e : rowsN (s :: ss) = s * rowsN ss := rfl
    rw [e, ← Nat.mul_assoc]
    exact this
def House.endAt (h : House) (sizes : List Nat) (row : Row) : End := h.ends.getD (numL 0 sizes row) default
section
variable {h : House} {sizes : List Nat} {row : Row}
theorem endAt_ok (ho : HouseOk h sizes) (hr : row.length = sizes.length) (hx : ∀ i, i < sizes.length → row.getD i 0 < sizes.getD i 0) : EndOk sizes.length h.told.length (h.endAt sizes row) := by
  have hlt := numL_lt (a := 0) (A := 1) hr hx (by decide)
  rw [Nat.one_mul, ← ho.ne] at hlt
  exact ho.en _ (by simp [House.endAt, List.getElem?_eq_getElem hlt])
end
end S

namespace S
open Z PySem PySem.Spec PyProof.Rows L2
section
variable {h : House} {sizes : List Nat} {p k j : Nat}
structure RowOk (sizes : List Nat) (r : Row) : Prop where
  len : r.length = sizes.length
  lt : ∀ i, i < sizes.length → r.getD i 0 < sizes.getD i 0
structure PkOk (h : House) (sizes : List Nat) (p k j : Nat) : Prop where
  ho : HouseOk h sizes
  hs : SizesOk sizes
  p1 : p < sizes.length
  k1 : k < (h.kinds p).length
  j1 : j < (h.worths p k).length
theorem PkOk.row (o : PkOk h sizes p k j) : (h.row p k j).length = h.told.length ∧ ∀ i ∈ h.row p k j, Bd i := by
  have hw := (o.ho.worth o.p1 o.k1).row (h.row p k j)
  have hm : h.row p k j ∈ ((h.kinds p).getD k default).worths := by
    have := o.j1
    have hg : ∀ l : List (List Int), j < l.length → l.getD j [] ∈ l := fun l hl => by
      rw [List.getD_eq_getElem?_getD, List.getElem?_eq_getElem hl]
      exact List.getElem_mem _
    exact hg _ this
  exact hw hm
theorem PkOk.end_ (o : PkOk h sizes p k j) {r : Row} (hr : RowOk sizes r) : (h.endAt sizes r).out < (h.row p k j).length ∧ p < (h.endAt sizes r).pays.length := by
  have he := endAt_ok o.ho hr.len hr.lt
  have := he.out
  have := he.len
  have := o.p1
  rw [o.row.1]
  exact ⟨by omega, by omega⟩
end
end S

/-! ZS: more goal by goal. -/
namespace Z
open PySem PySem.Spec PyProof.Rows L2
@[simp] theorem freshL_v {l : List D} : freshL (.v ⟨.lst l, 1⟩) = some l := rfl
@[simp] theorem mAppIx_ap {i : Nat} {mi m : AE} {ρ : Env} : mAppIx i mi m ρ = (match ρ.get i with
  | some ⟨.lst _, 2⟩ => do
    let (si, ρ1) ← mi ρ
    match si.cell ρ1, ρ1.get i with
    | some ⟨.int j, _⟩, some ⟨.lst ls, 2⟩ =>
      match ixN ls.length j with
      | some q => match ls[q]? with
        | some (.lst l) => do
          let (s, ρ2) ← m (ρ1.set i none)
          let (c, ρ3) ← esc s ρ2
          if l.length < 16777216 then R.ok (.v (Cell.fz .non), ρ3.set i (some ⟨.lst (ls.set q (.lst (l ++ [c.d]))), 2⟩)) else R.bad
        | _ => R.bad
      | none => R.bad
    | _, _ => R.bad
  | _ => R.bad) := rfl
/-! ### junk that is frozen -/
def ownB : Option Cell → Bool
  | some c => decide (c.k = 0)
  | none => true
@[simp] theorem ownB_none : ownB none = true := rfl
@[simp] theorem ownB_some {d : D} {k : Nat} : ownB (some ⟨d, k⟩) = decide (k = 0) := rfl
theorem own_consB {ρ : Env} {i : Nat} {r : List Nat} : ownOk ρ (i :: r) = (ownB (ρ.get i) && ownOk ρ r) := by
  rw [own_cons]
  cases ρ.get i <;> rfl
section
variable {it : ItD} {g : MG} {body : MS} {L : List Nat} {ds : List D} {ρ : Env} {Q : Fl × Env → Prop} {α β σ : Type}
/-- a loop: put writes the state into the slots, js are the slots of which nothing is said -/
theorem Ret_forZ (xs : List α) (toD : α → D) (js : List Nat) (put : σ → Env → Env) (I : List α → List α → σ → Prop) (s0 : σ) (hx : ds = xs.map toD) (jz : List Nat) (hz0 : ∀ i ∈ jz, ownB (ρ.get i) = true) (h0 : ρ = put s0 ρ) (hI : I [] xs s0)
    (h : ∀ done x rest s j, xs = done ++ x :: rest → I done (x :: rest) s → (∀ i ∈ jz, ownB (j i) = true) → Ret (step1 it g body L (toD x) (fillJ js j 0 (put s ρ))) fun y =>
      (y.1 = .next ∧ ∃ s', y.2 = fillJ js (fun i => y.2.get i) 0 (put s' ρ) ∧ I (done ++ [x]) rest s' ∧ ∀ i ∈ jz, ownB (y.2.get i) = true) ∨ (∃ c, y.1 = .ret c ∧ Q (.ret c, y.2)) ∨ (y.1 = .brk ∧ Q (.next, y.2)))
    (k : ∀ s j, I xs [] s → (∀ i ∈ jz, ownB (j i) = true) → Q (.next, fillJ js j 0 (put s ρ))) : Ret (loopF it g body L ds ρ) Q := by
  subst hx
  have key : ∀ (rest done : List α) (s : σ) (j : Nat → Option Cell), xs = done ++ rest → I done rest s → (∀ i ∈ jz, ownB (j i) = true) → Ret (loopF it g body L (rest.map toD) (fillJ js j 0 (put s ρ))) Q := by
    intro rest
    induction rest with
    | nil =>
      intro done s j e hi hz
      rw [List.append_nil] at e
      subst e
      exact ⟨_, rfl, k s j hi hz⟩
    | cons x rest ih =>
      intro done s j e hi hz
      obtain ⟨⟨fl, ρ'⟩, e1, h1⟩ := h done x rest s j e hi hz
      rw [List.map_cons]
      rcases h1 with ⟨rfl, s', e2, hi', hz'⟩ | ⟨c, rfl, hq⟩ | ⟨rfl, hq⟩
      · dsimp only at e2
        rw [loop_next e1, e2]
        exact ih (done ++ [x]) s' _ (by rw [e, List.append_assoc]; rfl) hi' hz'
      · exact ⟨_, loop_ret e1, hq⟩
      · exact ⟨_, loop_brk e1, hq⟩
  have := key xs [] s0 (fun i => ρ.get i) rfl hI hz0
  rw [← h0, fillJ_self] at this
  exact this
theorem Ret_rangeZ (n : Nat) (js : List Nat) (put : σ → Env → Env) (I : Nat → σ → Prop) (s0 : σ) (hx : ds = (List.range n).map fun (i : Nat) => D.int (i : Int)) (jz : List Nat) (hz0 : ∀ i ∈ jz, ownB (ρ.get i) = true) (h0 : ρ = put s0 ρ) (hI : I 0 s0)
    (h : ∀ (i : Nat) s j, i < n → I i s → (∀ i ∈ jz, ownB (j i) = true) → Ret (step1 it g body L (.int (i : Int)) (fillJ js j 0 (put s ρ))) fun y =>
      (y.1 = .next ∧ ∃ s', y.2 = fillJ js (fun i => y.2.get i) 0 (put s' ρ) ∧ I (i + 1) s' ∧ ∀ i ∈ jz, ownB (y.2.get i) = true) ∨ (∃ c, y.1 = .ret c ∧ Q (.ret c, y.2)) ∨ (y.1 = .brk ∧ Q (.next, y.2)))
    (k : ∀ s j, I n s → (∀ i ∈ jz, ownB (j i) = true) → Q (.next, fillJ js j 0 (put s ρ))) : Ret (loopF it g body L ds ρ) Q := by
  refine Ret_forZ (List.range n) (fun (i : Nat) => D.int (i : Int)) js put (fun done _ s => I done.length s) s0 hx jz hz0 h0 hI (fun done x rest s j e hi hz => ?_) fun s j hi hz => k s j (by simpa using hi) hz
  have hl := congrArg List.length e
  have hg := congrArg (fun l : List Nat => l[done.length]?) e
  simp at hl hg
  have hlt : done.length < n := by omega
  rw [List.getElem?_eq_getElem (by simpa using hlt)] at hg
  simp at hg
  have := h done.length s j hlt hi hz
  subst hg
  simpa using this
end
section
variable {α : Type}
@[simp] theorem f_allM {l : List α} {f : α → Bool} : fAll [⟨.lst (l.map fun x => D.bl (f x)), 1⟩] = .ok ⟨.bl (l.all f), 0⟩ := by
  have := f_allL (l := l.map f)
  rw [List.map_map] at this
  rw [show (l.map fun x => D.bl (f x)) = l.map (D.bl ∘ f) from rfl, this]
  simp [List.all_map]
@[simp] theorem f_anyM {l : List α} {f : α → Bool} : fAny [⟨.lst (l.map fun x => D.bl (f x)), 1⟩] = .ok ⟨.bl (l.any f), 0⟩ := by
  have := f_anyL (l := l.map f)
  rw [List.map_map] at this
  rw [show (l.map fun x => D.bl (f x)) = l.map (D.bl ∘ f) from rfl, this]
  simp [List.any_map]
end
@[simp] theorem mChain_s {f g : List Cell → R Cell} {a b c : AE} {ρ : Env} : mChain f g a b c ρ = (do
  let (s1, ρ1) ← a ρ
  let (s2, ρ2) ← b ρ1
  match s1.cell ρ2, s2.cell ρ2 with
  | some c1, some c2 => do
    let r ← f [c1, c2]
    match r with
    | ⟨.bl t, _⟩ => if t = true then (do
        let (s3, ρ3) ← c ρ2
        match s2.cell ρ3, s3.cell ρ3 with
        | some c2, some c3 => do
          let r ← g [c2, c3]
          R.ok (.v r, ρ3)
        | _, _ => R.bad) else R.ok (.v (Cell.fz (.bl false)), ρ2)
    | _ => R.bad
  | _, _ => R.bad) := by
  unfold mChain
  congr 1
  funext x
  obtain ⟨s1, ρ1⟩ := x
  dsimp only
  congr 1
  funext y
  obtain ⟨s2, ρ2⟩ := y
  dsimp only
  generalize Src.cell ρ2 s1 = x1
  generalize hx2 : Src.cell ρ2 s2 = x2
  cases x1 with
  | none => rfl
  | some c1 =>
    cases x2 with
    | none => rfl
    | some c2 =>
      dsimp only
      congr 1
      funext r
      obtain ⟨d, k⟩ := r
      cases d with
      | bl t => cases t <;> rfl
      | _ => rfl
@[simp] theorem Ret_addL {Q : Cell → Prop} {l m : List D} : Ret (fAdd [⟨.lst l, 1⟩, ⟨.lst m, 1⟩]) Q ↔ l.length + m.length ≤ 16777216 ∧ Q ⟨.lst (l ++ m), 1⟩ := by
  have : fAdd [⟨.lst l, 1⟩, ⟨.lst m, 1⟩] = if (1 : Nat) ≤ 1 ∧ (1 : Nat) ≤ 1 ∧ l.length + m.length ≤ 16777216 then .ok ⟨.lst (l ++ m), 1⟩ else .bad := rfl
  rw [this]
  simp
end Z

namespace S
open Z PySem PySem.Spec PyProof.Rows L2
/-! W1: houses read goal by goal; rows with one word; values of rows. -/
section
variable {h : House} {p k j : Nat}
@[simp] theorem len_boxD {b : Box} {k : Nat} : fLen [⟨Box.d b, k⟩] = .ok ⟨.int b.length, 0⟩ := by show R.ok (Cell.fz (.int (b.map nD).length)) = _; rw [List.length_map]; rfl
@[simp] theorem items_boxD {b : Box} : itemsOf (Box.d b) = some (b.map nD) := rfl
variable {sizes : List Nat}
theorem getD_of_lt {α : Type} [Inhabited α] {l : List α} {i : Nat} {d : α} (hi : i < l.length) : l.getD i d = l[i] := by
  simp [List.getD_eq_getElem?_getD, List.getElem?_eq_getElem hi]
/-- the value of a row's end -/
def rv (h : House) (sizes : List Nat) (p k j : Nat) (r : Row) : Int := val (h.row p k j) p (h.endAt sizes r)
end
end S

namespace S
open Z PySem PySem.Spec PyProof.Rows L2
/-! W2: lies. -/
theorem getD_eq_set {r : List Nat} {p w : Nat} : ∀ {h : r.length > p}, (r.set p w).getD p 0 = w := by
  intro h
  simp [List.getD_eq_getElem?_getD, h]
theorem RowOk.set {sizes : List Nat} {r : Row} {p w : Nat} (h : RowOk sizes r) (hw : w < sizes.getD p 0) : RowOk sizes (r.set p w) := by
  refine ⟨by simpa using h.len, fun i hi => ?_⟩
  by_cases e : i = p
  · subst e
    rw [getD_eq_set (h := by have := h.len; omega)]
    exact hw
  · have : (r.set p w).getD i 0 = r.getD i 0 := by simp [List.getD_eq_getElem?_getD, List.getElem?_set, Ne.symm e]
    rw [this]
    exact h.lt i hi
section
variable {h : House} {sizes : List Nat} {p k j : Nat}
/-- another word is better by more than the slack -/
def liesB (h : House) (sizes : List Nat) (p k o j : Nat) (r : Row) : Bool := decide (h.slack < rv h sizes p k j (r.set p o) - rv h sizes p k j r)
abbrev Lie := Nat × Nat × Nat × Nat × Row
structure KOk (h : House) (sizes : List Nat) (p k : Nat) : Prop where
  ho : HouseOk h sizes
  hs : SizesOk sizes
  p1 : p < sizes.length
  k1 : k < sizes.getD p 0
end
end S

namespace S
open Z PySem PySem.Spec PyProof.Rows L2
/-! W3: open lies. -/
section
variable {h : House} {sizes : List Nat} {p k j : Nat}
end
end S

namespace S
open Z PySem PySem.Spec PyProof.Rows L2
/-! W4: what the law k82 reckons itself. -/
section
variable {h : House} {sizes : List Nat} {p k j : Nat}
end
end S

namespace S
open Z PySem PySem.Spec PyProof.Rows L2
/-! W5: lies and open lies, the plain law. -/
section
variable {h : House} {sizes : List Nat} {p k j o : Nat} {r : Row}
structure LieOk (h : House) (sizes : List Nat) (x : Lie) : Prop where
  p1 : x.1 < sizes.length
  k1 : x.2.1 < sizes.getD x.1 0
  o1 : x.2.2.1 < sizes.getD x.1 0
  ne : x.2.2.1 ≠ x.2.1
  j1 : x.2.2.2.1 < (h.worths x.1 x.2.1).length
  r1 : RowOk sizes x.2.2.2.2
  say : x.2.2.2.2.getD x.1 0 = x.2.1
  lies : liesB h sizes x.1 x.2.1 x.2.2.1 x.2.2.2.1 x.2.2.2.2 = true
end
end S

namespace S
open Z PySem PySem.Spec PyProof.Rows L2
/-! W6: the law's judges. -/
section
variable {h : House} {sizes : List Nat} {p k j o : Nat} {r : Row}
theorem okd_all {α : Type} {l : List α} {f : α → D} {n : Nat} (h : ∀ x ∈ l, (f x).okd n = true) : (D.tup (l.map f)).okd (n + 1) = true := by
  show (l.map f).all (D.okd n) = true
  rw [List.all_map, List.all_eq_true]
  exact h
end
end S

namespace S
open Z PySem PySem.Spec PyProof.Rows L2
/-! W7: great houses. -/
section
variable {l : List D} {sizes : List Nat}
structure PsState where
  l : List D
  names : List Str
  ps : List Prsn
end
end S

namespace S
open Z PySem PySem.Spec PyProof.Rows L2
/-! W8: the law k82. -/
section
variable {l : List D} {h : House} {sizes : List Nat}
@[simp] theorem eq_rare : c__law_rare = c_rare := rfl
end
end S

namespace S
open Z PySem PySem.Spec PyProof.Rows L2
/-! W9: hearings walked by the program. -/
section
variable {b : Box} {h : Hr} {p : Nat} {rows : List (List Nat × Hr)} {path : List Nat}
def spare (b : Box) : Nat := (b.map fun q => q.length - 1).sum
theorem sum_set : ∀ {l : List Nat} {p x : Nat}, p < l.length → (l.set p x).sum + l.getD p 0 = l.sum + x
  | a :: l, 0, x, _ => by simp; omega
  | a :: l, p + 1, x, h => by
    have := sum_set (l := l) (p := p) (x := x) (by simpa using h)
    rw [List.set_cons_succ, List.sum_cons, List.sum_cons, List.getD_cons_succ]
    omega
theorem spare_set {q : List Nat} (hp : p < b.length) : spare (b.set p q) + ((b.getD p []).length - 1) = spare b + (q.length - 1) := by
  unfold spare
  rw [List.map_set]
  have := sum_set (l := b.map fun q => q.length - 1) (p := p) (x := q.length - 1) (by simpa using hp)
  have e : (b.map fun q => q.length - 1).getD p 0 = (b.getD p []).length - 1 := by
    simp [List.getD_eq_getElem?_getD, List.getElem?_eq_getElem hp]
  rw [e] at this
  exact this
theorem part_lt {ls : List (List Nat)} (h2 : 2 ≤ ls.length) (hn : ∀ q ∈ ls, q ≠ []) {q : List Nat} (hq : q ∈ ls) : q.length < ls.flatten.length := by
  have key : ∀ ls : List (List Nat), (∀ q ∈ ls, q ≠ []) → ls.length ≤ ls.flatten.length ∧ ∀ q ∈ ls, q.length + ls.length ≤ ls.flatten.length + 1 := by
    intro ls
    induction ls with
    | nil => intro _; simp
    | cons a r ih =>
      intro hn
      obtain ⟨i1, i2⟩ := ih fun q hq => hn q (List.mem_cons_of_mem _ hq)
      have ha := List.length_pos_iff.mpr (hn a (List.mem_cons_self ..))
      rw [List.flatten_cons, List.length_append, List.length_cons]
      refine ⟨by omega, fun q hq => ?_⟩
      rcases List.mem_cons.mp hq with rfl | hq
      · omega
      · have := i2 q hq
        omega
  have := (key ls hn).2 q hq
  omega
theorem HearOk.sub (hok : HearOk b (.ask p rows)) {r : List Nat × Hr} (hr : r ∈ rows) : HearOk (b.set p r.1) r.2 ∧ spare (b.set p r.1) < spare b ∧ r.1.Sublist (b.getD p []) ∧ r.1 ≠ [] := by
  cases hok with
  | ask hp h2 h3 h4 h5 =>
    refine ⟨h5 r hr, ?_, (h3 r hr).2, (h3 r hr).1⟩
    have h6 := part_lt (ls := rows.map (·.1)) (by simpa using h2) (fun q hq => by
      obtain ⟨r', hr', rfl⟩ := List.mem_map.mp hq
      exact (h3 r' hr').1) (List.mem_map_of_mem hr)
    rw [h4.length_eq] at h6
    have h7 := spare_set (q := r.1) hp
    have h8 := List.length_pos_iff.mpr (h3 r hr).1
    omega
theorem HearOk.p1 (hok : HearOk b (.ask p rows)) : p < b.length := by cases hok; assumption
/-- a hearing of a small box -/
structure HrIn (b : Box) (h : Hr) : Prop where
  ok : HearOk b h
  b4 : b.length ≤ 4
  nd : ∀ q ∈ b, q.Nodup
  l8 : ∀ q ∈ b, q.length ≤ 8
  x8 : ∀ q ∈ b, ∀ x ∈ q, x < 8
  m : h.many ≤ 1000
theorem HrIn.sub (o : HrIn b (.ask p rows)) {r : List Nat × Hr} (hr : r ∈ rows) : HrIn (b.set p r.1) r.2 := by
  obtain ⟨s1, s2, s3, s4⟩ := o.ok.sub hr
  have hm := many_sub o.ok hr
  have hp := o.ok.p1
  have hbp : b.getD p [] ∈ b := getD_mem' hp
  have hm2 := o.m
  refine ⟨s1, by simpa using o.b4, fun q hq => ?_, fun q hq => ?_, fun q hq => ?_, by omega⟩
  all_goals rcases List.mem_or_eq_of_mem_set hq with z | z
  · exact o.nd q z
  · rw [z]; exact s3.nodup (o.nd _ hbp)
  · exact o.l8 q z
  · rw [z]; exact Nat.le_trans s3.length_le (o.l8 _ hbp)
  · exact o.x8 q z
  · rw [z]; exact fun x hx => o.x8 _ hbp x (s3.subset hx)
end
end S

namespace S
open Z PySem PySem.Spec PyProof.Rows L2
/-! W10: runs, partings, boxes of paths. -/
section
variable {b : Box} {h : Hr} {row : Row}
end
end S

namespace S
open Z PySem PySem.Spec PyProof.Rows L2
/-! W11: drawn hearings. -/
section
variable {l : List D} {b : Box} {h : Hr} {p : Nat}
/-! chains -/
abbrev Link := Nat × List Nat × List Nat × Bool
def linkB (x : Link) (b : Box) : Box := b.set x.1 (if x.2.2.2 then x.2.2.1 else x.2.1)
def LinkOk (x : Link) (b : Box) : Prop := x.1 < b.length ∧ x.2.1 ≠ [] ∧ x.2.2.1 ≠ [] ∧ x.2.1 ++ x.2.2.1 = b.getD x.1 []
inductive Chain : Box → List Link → Box → Prop
  | nil {b : Box} : Chain b [] b
  | cons {b c : Box} {x : Link} {xs : List Link} : LinkOk x b → Chain (linkB x b) xs c → Chain b (x :: xs) c
theorem Chain.len {b c : Box} {xs : List Link} (h : Chain b xs c) : c.length = b.length := by
  induction h with
  | nil => rfl
  | cons _ _ ih => rw [ih]; simp [linkB]
end
end S

namespace S
open Z PySem PySem.Spec PyProof.Rows L2
/-! W12: the finest hearings; how many leaves; right hearings. -/
section
variable {l : List D} {b : Box} {h : Hr} {p : Nat}
def prodN (b : Box) : Nat := (b.map List.length).foldr (· * ·) 1
end
end S

namespace S
open Z PySem PySem.Spec PyProof.Rows L2
/-! W13: what the law k32 reckons itself. -/
section
variable {l : List D} {b : Box} {h : Hr} {p : Nat} {row other : Row}
end
end S

namespace S
open Z PySem PySem.Spec PyProof.Rows L2
/-! W14: runs and partings, told by the law k32. -/
section
variable {l : List D} {b : Box} {h : Hr} {p : Nat} {row other : Row}
end
end S

namespace S
open Z PySem PySem.Spec PyProof.Rows L2
/-! W15: another box, in which persons that are never asked have other kinds. -/
section
variable {l : List D} {b w : Box} {h : Hr} {p : Nat} {row other : Row}
theorem f_inNL {i : Nat} {l : List Nat} {k k' : Nat} {neg : Bool} : fIn neg [⟨.int (i : Int), k⟩, ⟨.lst (l.map fun (i : Nat) => D.int (i : Int)), k'⟩] = .ok ⟨.bl (neg ^^ decide (i ∈ l)), 0⟩ := by
  rw [f_inL (by rfl) (fun y hy => by obtain ⟨z, _, rfl⟩ := List.mem_map.mp hy; rfl)]
  have e : (D.int (i : Int) ∈ l.map fun (i : Nat) => D.int (i : Int)) = (i ∈ l) := propext (by
    rw [List.mem_map]
    constructor
    · rintro ⟨a, ha, e⟩
      injection e with e
      have : a = i := by omega
      rwa [this] at ha
    · exact fun h => ⟨i, h, rfl⟩)
  simp only [e]
end
end S

namespace S
open Z PySem PySem.Spec PyProof.Rows L2
/-! W16: boxes inside the whole one; hearings in another box. -/
section
variable {l : List D} {b w every : Box} {h : Hr} {p : Nat} {row other : Row} {sizes : List Nat}
structure GoodB (b : Box) : Prop where
  b1 : 0 < b.length
  b4 : b.length ≤ 4
  nd : ∀ q ∈ b, q.Nodup
  l8 : ∀ q ∈ b, q.length ≤ 8
  x8 : ∀ q ∈ b, ∀ x ∈ q, x < 8
  ne : ∀ q ∈ b, q ≠ []
  N : prodN b ≤ 256
theorem pick_map {α : Type} [Inhabited α] {xs : List α} {f : α → D} {k : Nat} (hk : k ≤ 1) (h : DSl l) (h0 : 0 < xs.length) (h1 : xs.length ≤ 5000) {Q : Cell × List Cell → Prop} (kk : ∀ (x : α) (l' : List D), x ∈ xs → DSl l' → Q (⟨f x, 0⟩, [⟨.lst l', 1⟩, ⟨.lst (xs.map f), k⟩])) : Ret (c_pick [⟨.lst l, 1⟩, ⟨.lst (xs.map f), k⟩]) Q := by
  have e := pickL_s (row := xs.map f) (k := k) hk h (by simpa using h0) (by simp; omega)
  have hlt := dN_ltN (l := l) (m := (xs.map f).length) h (by simpa using h0) (by simp; omega)
  have hg : (xs.map f).getD (dN l (xs.map f).length) .non = f (xs.getD (dN l (xs.map f).length) default) := by
    rw [getD_of_lt hlt, getD_of_lt (by simpa using hlt)]
    simp
  rw [hg] at e
  refine ⟨_, e, kk _ _ ?_ h.d⟩
  rw [getD_of_lt (by simpa using hlt)]
  exact List.getElem_mem _
end
end S

namespace S
open Z PySem PySem.Spec PyProof.Rows L2
/-! W17: the law k81: a table of values for each worth row, and the gaps of lies. -/
section
variable {l : List D} {h : House} {sizes : List Nat} {p k j o : Nat}
end
end S

namespace S
open Z PySem PySem.Spec PyProof.Rows L2
/-! W18: the law k81's first lie, its changed house. -/
section
variable {l : List D} {h : House} {sizes : List Nat} {p k j o : Nat}
end
end S

namespace S
open Z PySem PySem.Spec PyProof.Rows L2
/-! W51: conditions over numbers: holds, the law's masks. -/
inductive Cd where
  | all | least (p : Nat) (v : Int) | not (a : Cd) | and (a b : Cd) | or (a b : Cd)
instance : Inhabited Cd := ⟨.all⟩
def Cd.d : Cd → D
  | .all => .tup [.str "all"]
  | .least p v => .tup [.str "least", .int (p : Int), .int v]
  | .not a => .tup [.str "not", a.d]
  | .and a b => .tup [.str "and", a.d, b.d]
  | .or a b => .tup [.str "or", a.d, b.d]
def Cd.dep : Cd → Nat
  | .all => 1
  | .least _ _ => 1
  | .not a => a.dep + 1
  | .and a b => max a.dep b.dep + 1
  | .or a b => max a.dep b.dep + 1
def Cd.ok (n : Nat) : Cd → Prop
  | .all => True
  | .least p _ => p < n
  | .not a => a.ok n
  | .and a b => a.ok n ∧ b.ok n
  | .or a b => a.ok n ∧ b.ok n
section
variable {a b c : Cd} {row : List Int} {n p : Nat} {v : Int} {k k' : Nat}
end
end S

namespace S
open Z PySem PySem.Spec PyProof.Rows L2
/-! W52: masks. -/
def mkB : List Bool → Nat
  | [] => 0
  | b :: r => (if b then 1 else 0) + 2 * mkB r
theorem mkB_bit : ∀ {l : List Bool} {k : Nat}, mkB l / 2 ^ k % 2 = if l.getD k false then 1 else 0
  | [], k => by simp [mkB]
  | b :: r, 0 => by
    rw [mkB, Nat.pow_zero, Nat.div_one, List.getD_cons_zero]
    cases b <;> simp <;> omega
  | b :: r, k + 1 => by
    have := mkB_bit (l := r) (k := k)
    rw [mkB, Nat.pow_succ, Nat.mul_comm (2 ^ k), ← Nat.div_div_eq_div_mul, List.getD_cons_succ, ← this]
    have e : ((if b then 1 else 0) + 2 * mkB r) / 2 = mkB r := by cases b <;> simp <;> omega
    rw [e]
theorem mkB_test {l : List Bool} {k : Nat} : (mkB l).testBit k = l.getD k false := by
  have h := mkB_bit (l := l) (k := k)
  rw [Nat.testBit_eq_decide_div_mod_eq, h]
  cases l.getD k false <;> rfl
def msk {α : Type} (g : List α) (f : α → Bool) : Nat := mkB (g.map f)
theorem msk_sum {α : Type} {g : List α} {f h : α → Bool} : (msk g fun r => f r && h r) + (msk g fun r => f r && !h r) = msk g f := by
  unfold msk
  induction g with
  | nil => rfl
  | cons a g ih =>
    simp only [List.map_cons, mkB]
    cases f a <;> cases h a <;> simp <;> omega
theorem msk_all {α : Type} {g : List α} : (msk g fun _ => true) + 1 = 2 ^ g.length := by
  unfold msk
  induction g with
  | nil => rfl
  | cons a g ih =>
    simp only [List.map_cons, mkB, List.length_cons, Nat.pow_succ]
    simp
    omega
theorem msk_not {α : Type} {g : List α} {f : α → Bool} : msk g f + (msk g fun r => !f r) = msk g fun _ => true := by
  have := msk_sum (g := g) (f := fun _ => true) (h := f)
  simpa using this
theorem band_nat {a b : Nat} : Builtin.bitAnd (a : Int) (b : Int) = ((a &&& b : Nat) : Int) := by
  unfold Builtin.bitAnd
  rw [decide_eq_true (Int.natCast_nonneg a), decide_eq_true (Int.natCast_nonneg b)]
  show ((((a : Int).toNat &&& (b : Int).toNat) : Nat) : Int) = _
  rw [Int.toNat_natCast, Int.toNat_natCast]
theorem bit1 {m k : Nat} : Builtin.bitAnd ((m : Int) / 2 ^ k) 1 = ((m / 2 ^ k % 2 : Nat) : Int) := by
  have e : (m : Int) / 2 ^ k = ((m / 2 ^ k : Nat) : Int) := by simp
  rw [e, show (1 : Int) = ((1 : Nat) : Int) from rfl, band_nat, Nat.and_one_is_mod]
end S

namespace S
open Z PySem PySem.Spec PyProof.Rows L2
/-! W65: givings: turns (plain). -/
section
variable {α : Type} [DecidableEq α]
theorem idx_inj {l : List α} {a b : α} (ha : a ∈ l) (h : l.idxOf a = l.idxOf b) : a = b := by
  have h1 := List.idxOf_lt_length_iff.mpr ha
  have h2 : l.idxOf b < l.length := by rw [← h]; exact h1
  have e1 := List.getElem_idxOf h1
  have e2 := List.getElem_idxOf h2
  rw [← e1, ← e2]
  simp only [h]
theorem idx_get : ∀ {l : List α}, l.Nodup → ∀ {i : Nat} (h : i < l.length), l.idxOf l[i] = i
  | a :: l, hn, 0, _ => by simp
  | a :: l, hn, i + 1, h => by
    obtain ⟨h1, h2⟩ := List.nodup_cons.mp hn
    have hi : i < l.length := by simpa using h
    rw [List.getElem_cons_succ, List.idxOf_cons, idx_get h2 hi]
    have : (a == l[i]) = false := beq_eq_false_iff_ne.mpr fun e => h1 (by rw [e]; exact List.getElem_mem _)
    rw [this]; rfl
theorem find_min {l : List α} {P : α → Bool} {q : α} (h : l.find? P = some q) : ∀ x, P x = true → l.idxOf q ≤ l.idxOf x := by
  intro x hx
  obtain ⟨hq, as, bs, rfl, hno⟩ := List.find?_eq_some_iff_append.mp h
  have hxa : x ∉ as := fun z => by have := hno x z; rw [hx] at this; cases this
  have hqa : q ∉ as := fun z => by have := hno q z; rw [hq] at this; cases this
  rw [List.idxOf_append, List.idxOf_append, if_neg hxa, if_neg hqa]
  simp
theorem getD_set2 {l : List α} {i j : Nat} {a d : α} : (l.set i a).getD j d = if i = j ∧ i < l.length then a else l.getD j d := by
  rw [List.getD_eq_getElem?_getD, List.getD_eq_getElem?_getD, List.getElem?_set]
  by_cases h : i = j
  · subst h
    by_cases h2 : i < l.length
    · simp [h2]
    · simp [h2]
  · simp [h]
end
structure RkOk (n m : Nat) (R : List (List Int)) : Prop where
  l : R.length = n
  nd : ∀ r ∈ R, r.Nodup
  mem : ∀ r ∈ R, ∀ t, t ∈ r ↔ 0 ≤ t ∧ t < m
  len : ∀ r ∈ R, r.length = m
structure PrOk (n m : Nat) (Pr : List (List Nat)) : Prop where
  l : Pr.length = m
  nd : ∀ r ∈ Pr, r.Nodup
  mem : ∀ r ∈ Pr, ∀ p, p ∈ r ↔ p < n
  len : ∀ r ∈ Pr, r.length = n
abbrev rk (R : List (List Int)) (p : Nat) : List Int := R.getD p []
abbrev gv (g : List Int) (p : Nat) : Int := g.getD p (-1)
abbrev spot (R : List (List Int)) (p : Nat) (t : Int) : Nat := (rk R p).idxOf t
structure Val (n m : Nat) (g : List Int) : Prop where
  l : g.length = n
  b : ∀ p, p < n → -1 ≤ gv g p ∧ gv g p < m
  d : ∀ p q, p < n → q < n → p ≠ q → gv g p = gv g q → gv g p = -1
def noneG (n : Nat) : List Int := List.replicate n (-1)
theorem gv_set {g : List Int} {p q : Nat} {t : Int} : gv (g.set p t) q = if p = q ∧ p < g.length then t else gv g q := getD_set2
theorem gv_mem {g : List Int} {t : Int} : t ∈ g ↔ ∃ p, p < g.length ∧ gv g p = t := by
  constructor
  · intro h
    obtain ⟨i, hi, e⟩ := List.getElem_of_mem h
    exact ⟨i, hi, by unfold gv; rw [getD_of_lt hi]; exact e⟩
  · rintro ⟨i, hi, e⟩
    unfold gv at e
    rw [getD_of_lt hi] at e
    rw [← e]
    exact List.getElem_mem _
section
variable {n m : Nat} {R : List (List Int)} {g h : List Int}
theorem RkOk.ndp (hr : RkOk n m R) {p : Nat} (hp : p < n) : (rk R p).Nodup ∧ (∀ t, t ∈ rk R p ↔ 0 ≤ t ∧ t < m) ∧ (rk R p).length = m := by
  have hm : rk R p ∈ R := by unfold rk; rw [getD_of_lt (by rw [hr.l]; exact hp)]; exact List.getElem_mem _
  exact ⟨hr.nd _ hm, hr.mem _ hm, hr.len _ hm⟩
end
end S

namespace S
open Z PySem PySem.Spec PyProof.Rows L2
/-! W66: givings: first places (plain). -/
abbrev at_ (R : List (List Int)) (p place : Nat) : Int := (rk R p).getD place 0
section
variable {n m : Nat} {R : List (List Int)} {Pr : List (List Nat)} {g h : List Int} {place : Nat}
end
end S

namespace S
open Z PySem PySem.Spec PyProof.Rows L2
/-! W67: givings: offers (plain). -/
abbrev pv (pl : List Nat) (p : Nat) : Nat := pl.getD p 0
def offerF (R : List (List Int)) (pl : List Nat) (p : Nat) : Int := if pv pl p < (rk R p).length then (rk R p).getD (pv pl p) 0 else -1
def FairP (n : Nat) (R : List (List Int)) (Pr : List (List Nat)) (g : List Int) : Prop :=
  ∀ p, p < n → ∀ t, spot R p t < spot R p (gv g p) → ∃ q, q < n ∧ gv g q = t ∧ ¬ (Pr.getD t.toNat []).idxOf p < (Pr.getD t.toNat []).idxOf q
structure Da (n m : Nat) (R : List (List Int)) (Pr : List (List Nat)) (pl : List Nat) : Prop where
  l : pl.length = n
  le : ∀ p, p < n → pv pl p ≤ m
  a : ∀ g, Val n m g → FairP n R Pr g → ∀ p, p < n → pv pl p ≤ spot R p (gv g p)
  b : ∀ p, p < n → ∀ r, r < pv pl p → ∃ q, q < n ∧ q ≠ p ∧ offerF R pl q = at_ R p r ∧ (Pr.getD (at_ R p r).toNat []).idxOf q < (Pr.getD (at_ R p r).toNat []).idxOf p
section
variable {n m : Nat} {R : List (List Int)} {Pr : List (List Nat)} {g h : List Int} {pl : List Nat}
theorem PrOk.at (hp : PrOk n m Pr) {t : Nat} (ht : t < m) : (Pr.getD t []).Nodup ∧ (∀ p, p ∈ Pr.getD t [] ↔ p < n) := by
  have hm : Pr.getD t [] ∈ Pr := by rw [getD_of_lt (by rw [hp.l]; exact ht)]; exact List.getElem_mem _
  exact ⟨hp.nd _ hm, hp.mem _ hm⟩
end
end S

namespace S
open Z PySem PySem.Spec PyProof.Rows L2
/-! W68: givings: the program's turns and offers. -/
abbrev RD (R : List (List Int)) : D := .tup (R.map iD)
section
variable {l : List D} {n m k k' : Nat} {R : List (List Int)} {Pr : List (List Nat)} {r g left : List Int} {ps pr pl : List Nat}
theorem inI {i : Int} {l : List Int} {neg : Bool} : fIn neg [⟨.int i, k⟩, ⟨.lst (l.map D.int), k'⟩] = .ok ⟨.bl (neg ^^ decide (i ∈ l)), 0⟩ := by
  rw [f_inL (by rfl) (fun y hy => by obtain ⟨z, _, rfl⟩ := List.mem_map.mp hy; rfl)]
  have e : (D.int i ∈ l.map D.int) = (i ∈ l) := propext ⟨fun h => by
    obtain ⟨z, hz, e⟩ := List.mem_map.mp h
    cases e
    exact hz, fun h => List.mem_map.mpr ⟨i, h, rfl⟩⟩
  simp only [e]
theorem search_int {l : List Int} {P : Int → Bool} : (l.findSome? fun x => if P x then some (⟨.int x, 0⟩ : Cell) else none) = (l.find? P).map fun x => ⟨.int x, 0⟩ := by
  induction l with
  | nil => rfl
  | cons a l ih =>
    rw [List.findSome?_cons, List.find?_cons]
    cases h : P a with
    | true => simp
    | false => simpa using ih
theorem best_left_ok : c_best_left [⟨iD r, 0⟩, ⟨.lst (left.map D.int), 1⟩] = .ok (⟨.int ((r.find? fun t => decide (t ∈ left)).getD (-1)), 0⟩, [⟨iD r, 0⟩, ⟨.lst (left.map D.int), 1⟩]) := by
  refine Ret.eq ?_
  simp (maxSteps := 2000000) -implicitDefEqProofs [-List.getD_eq_getElem?_getD, -own_cons, own_consB, ixT0, ixT1, ixT2, ixT3, ixT4, c_best_left, m_best_left]
  refine Ret_search r D.int [2] (fun x => if decide (x ∈ left) then some (⟨.int x, 0⟩ : Cell) else none) rfl (fun x jj hx => ?_) fun jj => ?_
  · have e1 := inI (i := x) (l := left) (k := 0) (k' := 1) (neg := false)
    by_cases hc : x ∈ left <;> simp (maxSteps := 2000000) -implicitDefEqProofs [-List.getD_eq_getElem?_getD, -own_cons, own_consB, ixT0, ixT1, ixT2, ixT3, ixT4, step1, b_best_left_1, e1, hc]
  · rw [search_int]
    cases e : r.find? fun t => decide (t ∈ left) <;> simp (maxSteps := 2000000) -implicitDefEqProofs [-List.getD_eq_getElem?_getD, -own_cons, own_consB, ixT0, ixT1, ixT2, ixT3, ixT4]
theorem lenR : fLen [⟨RD R, k⟩] = .ok ⟨.int (R.length : Nat), 0⟩ := by
  show Z.R.ok (Cell.fz (.int ((R.map iD).length : Nat))) = _
  rw [List.length_map]
  rfl
theorem ixR {p : Nat} (h : p < R.length) : fIx [⟨RD R, k⟩, ⟨.int (p : Int), k'⟩] = .ok ⟨iD (rk R p), 0⟩ := ixT (by rw [List.getElem?_map, List.getElem?_eq_getElem h]; unfold rk; rw [getD_of_lt h]; rfl)
theorem ixGT {p : Nat} (h : p < g.length) : fIx [⟨iD g, k⟩, ⟨.int (p : Int), k'⟩] = .ok ⟨.int (gv g p), 0⟩ := ixT (by show (g.map D.int)[p]? = _; rw [List.getElem?_map, List.getElem?_eq_getElem h]; unfold gv; rw [getD_of_lt h]; rfl)
theorem ixPl {p : Nat} (hk : k ≤ 1) (h : p < pl.length) : fIx [⟨.lst (nL pl), k⟩, ⟨.int (p : Int), k'⟩] = .ok ⟨.int (pv pl p : Nat), 0⟩ := ixL hk (by unfold nL; rw [List.getElem?_map, List.getElem?_eq_getElem h]; unfold pv; rw [getD_of_lt h]; rfl)
end
end S

namespace S
open Z PySem PySem.Spec PyProof.Rows L2
/-! W69: givings: the program's three ways. -/
section
variable {l : List D} {n m k k' : Nat} {R : List (List Int)} {Pr : List (List Nat)} {r g left : List Int} {ps pr pl L : List Nat}
theorem noneC (hR : R.length = n) : R.map (fun _ => D.int (-1)) = (noneG n).map D.int := by
  unfold noneG
  rw [List.map_replicate, ← hR]
  exact List.map_const' ..
theorem setI {g : List Int} {p : Nat} {t : Int} (h : p < g.length) : setD (g.map D.int) (p : Int) (.int t) = some ((g.set p t).map D.int) := by
  rw [setD_n (by rw [List.length_map]; exact h), List.map_set]
end
end S

namespace S
open Z PySem PySem.Spec PyProof.Rows L2
/-! W70: givings: the law's own ways. -/
theorem perm_nat {x : List D} {b : List Nat} (h : x.Perm (nL b)) : ∃ a, x = nL a ∧ a.Perm b := perm_nL h
def ups (L : List Nat) : List Int := L.map fun (i : Nat) => (i : Int)
theorem ups_d {L : List Nat} : nD L = iD (ups L) := by
  show D.tup _ = D.tup ((ups L).map D.int)
  unfold ups
  rw [List.map_map]
  rfl
def IsPm (n : Nat) (L : List Nat) : Prop := L.Perm (List.range n)
section
variable {l : List D} {n m k k' : Nat} {R : List (List Int)} {Pr : List (List Nat)} {r g h left : List Int} {ps pr pl L : List Nat}
theorem IsPm.mem (h : IsPm n L) (p : Nat) : p ∈ L ↔ p < n := by rw [List.Perm.mem_iff h, List.mem_range]
theorem IsPm.nd (h : IsPm n L) : L.Nodup := (List.Perm.nodup_iff h).mpr List.nodup_range
theorem IsPm.len (h : IsPm n L) : L.length = n := by rw [List.Perm.length_eq h, List.length_range]
theorem mem_ups {t : Int} : t ∈ ups L ↔ ∃ i ∈ L, (i : Int) = t := List.mem_map
theorem ups_ok (h : IsPm m L) : (ups L).Nodup ∧ (∀ t, t ∈ ups L ↔ 0 ≤ t ∧ t < m) ∧ (ups L).length = m := by
  refine ⟨?_, fun t => ?_, by unfold ups; rw [List.length_map]; exact h.len⟩
  · unfold ups
    unfold List.Nodup
    rw [List.pairwise_map]
    exact h.nd.imp fun hne e => hne (by omega)
  · rw [mem_ups]
    constructor
    · rintro ⟨i, hi, rfl⟩
      have := (h.mem i).mp hi
      omega
    · rintro ⟨h1, h2⟩
      exact ⟨t.toNat, (h.mem _).mpr (by omega), by omega⟩
theorem rk_of {Ls : List (List Nat)} (hl : Ls.length = n) (h : ∀ L ∈ Ls, IsPm m L) : RkOk n m (Ls.map ups) := by
  have key : ∀ r ∈ Ls.map ups, ∃ L, IsPm m L ∧ r = ups L := fun r hr => by
    obtain ⟨L, hL, rfl⟩ := List.mem_map.mp hr
    exact ⟨L, h L hL, rfl⟩
  refine ⟨by rw [List.length_map]; exact hl, fun r hr => ?_, fun r hr => ?_, fun r hr => ?_⟩
  · obtain ⟨L, hL, rfl⟩ := key r hr
    exact (ups_ok hL).1
  · obtain ⟨L, hL, rfl⟩ := key r hr
    exact (ups_ok hL).2.1
  · obtain ⟨L, hL, rfl⟩ := key r hr
    exact (ups_ok hL).2.2
theorem law_listing_r (h : DSl l) (hn : n ≤ 100) {Q : Cell × List Cell → Prop} (kk : ∀ (L : List Nat) (l' : List D), DSl l' → IsPm n L → Q (⟨nD L, 0⟩, [⟨.lst l', 1⟩, ⟨.int (n : Int), 0⟩])) : Ret (c__law_listing [⟨.lst l, 1⟩, ⟨.int (n : Int), 0⟩]) Q := by
  obtain ⟨row', l2, e2, h2, hp⟩ := shuffled_s (l := l) (row := nL (List.range n)) (k := 1) h (by decide) (by simp [nL]; omega)
  obtain ⟨L, rfl, hL⟩ := perm_nat hp
  have e0 : rgD 0 (n : Int) = nL (List.range n) := rgD_nL
  have eb : rgB 0 (n : Int) = true := rgB_nat (by omega)
  simp (maxSteps := 2000000) -implicitDefEqProofs [-List.getD_eq_getElem?_getD, -own_cons, own_consB, ixT0, ixT1, ixT2, ixT3, ixT4, c__law_listing, m__law_listing, e0, e2, eb]
  refine ⟨?_, kk L l2 h2 hL⟩
  unfold rgOkB
  simp
  omega
end
end S

namespace S
open Z PySem PySem.Spec PyProof.Rows L2
/-! W71: givings: all givings, fair ones, as good ones. -/
def ts (m : Nat) : List Int := (List.range (m + 1)).map fun (i : Nat) => (-1 : Int) + (i : Int)
section
variable {l : List D} {n m k k' : Nat} {R : List (List Int)} {Pr : List (List Nat)} {r g h left : List Int} {ps pr pl L : List Nat}
theorem flat_len {α β : Type} {l : List α} {f : α → List β} {c : Nat} (h : ∀ x ∈ l, (f x).length ≤ c) : (l.flatMap f).length ≤ l.length * c := by
  induction l with
  | nil => simp
  | cons a l ih =>
    have h1 := h a (List.mem_cons_self ..)
    have h2 := ih fun x hx => h x (List.mem_cons_of_mem _ hx)
    rw [List.flatMap_cons, List.length_append, List.length_cons, Nat.succ_mul]
    omega
end
end S

namespace S
open Z PySem PySem.Spec PyProof.Rows L2
/-! W72: givings: the law's rounds, fair givings, as good ones. -/
section
variable {l : List D} {n m k k' : Nat} {R : List (List Int)} {Pr : List (List Nat)} {r g h left : List Int} {ps pr pl L : List Nat}
theorem ixOf_I {t : Int} : ∀ {l : List Int} {j : Nat}, t ∈ l → ixOf (.int t) j (l.map D.int) = some (j + l.idxOf t)
  | [], _, h => nomatch h
  | a :: l, j, h => by
    have e : D.eqv (.int a) (.int t) = decide (D.int a = D.int t) := eqv_pl 60 _ _ rfl rfl
    rw [List.map_cons, ixOf, e, List.idxOf_cons]
    by_cases hc : a = t
    · subst hc
      simp
    · have h1 : (a == t) = false := beq_eq_false_iff_ne.mpr hc
      have h2 : ¬ D.int a = D.int t := fun z => by cases z; exact hc rfl
      rw [decide_eq_false h2, h1, if_neg (by simp), ixOf_I ((List.mem_cons.mp h).elim (fun z => absurd z.symm hc) id)]
      show some (j + 1 + l.idxOf t) = some (j + (l.idxOf t + 1))
      congr 1
      omega
theorem indexT_I {t : Int} (h : t ∈ r) : fIndexT [⟨iD r, k⟩, ⟨.int t, k'⟩] = .ok ⟨.int (r.idxOf t : Nat), 0⟩ := by
  have hl : (D.tup (r.map D.int)).okd 60 = true := okd_all fun x _ => rfl
  have e : (D.int t).okd 60 = true := rfl
  have e2 := ixOf_I (j := 0) h
  show fIndexT [⟨.tup (r.map D.int), k⟩, ⟨.int t, k'⟩] = _
  unfold fIndexT
  simp only [hl, e, Bool.and_true, if_true, e2, Nat.zero_add]
  rfl
theorem some_any {α β : Type} {l : List α} {P : α → Bool} {c : β} : (l.findSome? fun x => if P x then some c else none) = if l.any P then some c else none := by
  induction l with
  | nil => rfl
  | cons a l ih =>
    rw [List.findSome?_cons, List.any_cons]
    cases h : P a with
    | true => simp
    | false => simpa using ih
end
end S

namespace S
open Z PySem PySem.Spec PyProof.Rows L2
/-! W73: trades (plain). -/
section
variable {α : Type} [DecidableEq α]
theorem sub_of_len : ∀ {l1 l2 : List α}, l1.Nodup → (∀ x ∈ l1, x ∈ l2) → l2.length ≤ l1.length → ∀ x ∈ l2, x ∈ l1
  | [], l2, _, _, hl, x, hx => by
    have : l2 = [] := List.length_eq_zero_iff.mp (by simpa using hl)
    rw [this] at hx
    exact hx
  | a :: l1, l2, hn, hs, hl, x, hx => by
    obtain ⟨n1, n2⟩ := List.nodup_cons.mp hn
    have ha := hs a (List.mem_cons_self ..)
    have e := List.length_erase_of_mem ha
    have hpos := List.length_pos_of_mem ha
    rw [List.length_cons] at hl
    have ih := sub_of_len (l1 := l1) (l2 := l2.erase a) n2 (fun y hy => (List.mem_erase_of_ne (fun z => n1 (by rw [← z]; exact hy))).mpr (hs y (List.mem_cons_of_mem _ hy))) (by omega)
    by_cases hxa : x = a
    · rw [hxa]; exact List.mem_cons_self ..
    · exact List.mem_cons_of_mem _ (ih x ((List.mem_erase_of_ne hxa).mpr hx))
theorem nodup_len : ∀ {l1 l2 : List α}, l1.Nodup → (∀ x ∈ l1, x ∈ l2) → l1.length ≤ l2.length
  | [], _, _, _ => Nat.zero_le _
  | a :: l1, l2, hn, hs => by
    obtain ⟨n1, n2⟩ := List.nodup_cons.mp hn
    have ha := hs a (List.mem_cons_self ..)
    have e := List.length_erase_of_mem ha
    have hpos := List.length_pos_of_mem ha
    have ih := nodup_len (l1 := l1) (l2 := l2.erase a) n2 fun y hy => (List.mem_erase_of_ne (fun z => n1 (by rw [← z]; exact hy))).mpr (hs y (List.mem_cons_of_mem _ hy))
    rw [List.length_cons]
    omega
end
theorem nodup_map_on {α β : Type} {f : α → β} : ∀ {l : List α}, l.Nodup → (∀ x ∈ l, ∀ y ∈ l, f x = f y → x = y) → (l.map f).Nodup
  | [], _, _ => List.nodup_nil
  | a :: l, hn, h => by
    obtain ⟨n1, n2⟩ := List.nodup_cons.mp hn
    rw [List.map_cons]
    refine List.nodup_cons.mpr ⟨fun z => ?_, nodup_map_on n2 fun x hx y hy => h x (List.mem_cons_of_mem _ hx) y (List.mem_cons_of_mem _ hy)⟩
    obtain ⟨x, hx, e⟩ := List.mem_map.mp z
    rw [h x (List.mem_cons_of_mem _ hx) a (List.mem_cons_self ..) e] at hx
    exact n1 hx
/-- an injective map of a finite set into itself meets every member -/
theorem surj_on {n : Nat} {A : Nat → Prop} {f : Nat → Nat} (hA : ∀ p, A p → p < n) (hf : ∀ p, A p → A (f p)) (hi : ∀ p q, A p → A q → f p = f q → p = q) {y : Nat} (hy : A y) : ∃ x, A x ∧ f x = y := by
  have dec : ∀ p, Decidable (A p) := fun p => Classical.propDecidable _
  have hm : ∀ p, p ∈ (List.range n).filter (fun p => @decide (A p) (dec p)) ↔ A p := fun p => by
    rw [List.mem_filter, List.mem_range]
    exact ⟨fun h => @of_decide_eq_true _ (dec p) h.2, fun h => ⟨hA p h, @decide_eq_true _ (dec p) h⟩⟩
  have h1 := sub_of_len (l1 := ((List.range n).filter (fun p => @decide (A p) (dec p))).map f) (l2 := (List.range n).filter (fun p => @decide (A p) (dec p)))
    (nodup_map_on (List.nodup_range.filter _) fun x hx y hy => hi x y ((hm x).mp hx) ((hm y).mp hy)) (fun z hz => by
      obtain ⟨x, hx, rfl⟩ := List.mem_map.mp hz
      exact (hm _).mpr (hf x ((hm x).mp hx))) (by rw [List.length_map]; exact Nat.le_refl _) y ((hm y).mpr hy)
  obtain ⟨x, hx, e⟩ := List.mem_map.mp h1
  exact ⟨x, (hm x).mp hx, e⟩
structure Trade (n : Nat) (R : List (List Int)) (g : List Int) (T : Nat → Nat) : Prop where
  l : g.length = n
  b : ∀ p, p < n → 0 ≤ gv g p ∧ gv g p < n
  inj : ∀ p q, p < n → q < n → gv g p = gv g q → p = q
  lev : ∀ p, p < n → T (gv g p).toNat = T p
  best : ∀ p, p < n → ∀ q, q < n → T p ≤ T q → spot R p (gv g p) ≤ spot R p (q : Int)
section
variable {n : Nat} {R R' : List (List Int)} {g g' : List Int} {T T' : Nat → Nat}
theorem Trade.gn (h : Trade n R g T) {p : Nat} (hp : p < n) : (gv g p).toNat < n ∧ (((gv g p).toNat : Nat) : Int) = gv g p := by
  have := h.b p hp
  exact ⟨by omega, by omega⟩
theorem Trade.injn (h : Trade n R g T) {p q : Nat} (hp : p < n) (hq : q < n) (e : (gv g p).toNat = (gv g q).toNat) : p = q := by
  have h1 := (h.gn hp).2
  have h2 := (h.gn hq).2
  exact h.inj p q hp hq (by omega)
theorem trade_uniq (hr : RkOk n n R) (h : Trade n R g T) (h' : Trade n R' g' T') (B : Nat) (same : ∀ p, p < n → T p < B → rk R p = rk R' p) : ∀ p, p < n → T p < B → gv g' p = gv g p := by
  have key : ∀ t s p, p < n → T p < B → T p = t → T' p = s → gv g' p = gv g p := by
    intro t
    induction t using Nat.strongRecOn with
    | ind t ih1 =>
      intro s
      induction s using Nat.strongRecOn with
      | ind s ih2 =>
        intro p hp hB ht hs
        -- what the other gives is not taken ahead
        have a1 : t ≤ T (gv g' p).toNat := by
          by_cases z : t ≤ T (gv g' p).toNat
          · exact z
          · exfalso
            obtain ⟨x, ⟨x1, x2⟩, e⟩ := surj_on (n := n) (A := fun q => q < n ∧ T q < t) (f := fun q => (gv g q).toNat) (fun _ h => h.1) (fun q ⟨q1, q2⟩ => ⟨(h.gn q1).1, by rw [h.lev q q1]; exact q2⟩) (fun q w ⟨q1, _⟩ ⟨w1, _⟩ e => h.injn q1 w1 e) (y := (gv g' p).toNat) ⟨(h'.gn hp).1, by omega⟩
            have e1 := ih1 (T x) (by omega) (T' x) x x1 (by omega) rfl rfl
            have e2 : p = x := h'.injn hp x1 (by rw [e1]; exact e.symm)
            rw [← e2] at x2
            omega
        have a2 : s ≤ T' (gv g p).toNat := by
          by_cases z : s ≤ T' (gv g p).toNat
          · exact z
          · exfalso
            obtain ⟨x, ⟨x1, x2, x3⟩, e⟩ := surj_on (n := n) (A := fun q => q < n ∧ T q = t ∧ T' q < s) (f := fun q => (gv g q).toNat) (fun _ h => h.1) (fun q ⟨q1, q2, q3⟩ => ⟨(h.gn q1).1, by rw [h.lev q q1]; exact q2, by
              have e1 := ih2 (T' q) q3 q q1 (by omega) q2 rfl
              rw [← e1, h'.lev q q1]
              exact q3⟩) (fun q w ⟨q1, _⟩ ⟨w1, _⟩ e => h.injn q1 w1 e) (y := (gv g p).toNat) ⟨(h.gn hp).1, by rw [h.lev p hp]; exact ht, by omega⟩
            have : x = p := h.injn x1 hp e
            rw [this] at x3
            omega
        have b1 := h.best p hp _ (h'.gn hp).1 (by omega)
        have b2 := h'.best p hp _ (h.gn hp).1 (by omega)
        rw [(h'.gn hp).2] at b1
        rw [(h.gn hp).2] at b2
        have hrk := same p hp hB
        unfold spot at b1 b2
        rw [← hrk] at b2
        obtain ⟨c1, c2⟩ := h'.b p hp
        exact idx_inj (((hr.ndp hp).2.1 _).mpr ⟨c1, c2⟩) (Nat.le_antisymm b2 b1)
  exact fun p hp hB => key (T p) (T' p) p hp hB rfl rfl
/-- no group betters itself -/
theorem trade_core (hr : RkOk n n R) (h : Trade n R g T) {S : Nat → Prop} {row : Nat → Nat} (hS : ∀ p, S p → p < n) (hrow : ∀ p, S p → S (row p)) (hi : ∀ p q, S p → S q → row p = row q → p = q) (hg : ∀ p, S p → spot R p (row p : Int) ≤ spot R p (gv g p)) : ∀ p, S p → (row p : Int) = gv g p := by
  have key : ∀ t p, S p → T p = t → (row p : Int) = gv g p := by
    intro t
    induction t using Nat.strongRecOn with
    | ind t ih =>
      intro p hp ht
      have hpn := hS p hp
      have a1 : t ≤ T (row p) := by
        by_cases z : t ≤ T (row p)
        · exact z
        · exfalso
          obtain ⟨x, ⟨x1, x2⟩, e⟩ := surj_on (n := n) (A := fun q => S q ∧ T q < t) (f := row) (fun q h => hS q h.1) (fun q ⟨q1, q2⟩ => ⟨hrow q q1, by
            have e := ih (T q) q2 q q1 rfl
            have : row q = (gv g q).toNat := by omega
            rw [this, h.lev q (hS q q1)]
            exact q2⟩) (fun q w ⟨q1, _⟩ ⟨w1, _⟩ e => hi q w q1 w1 e) (y := row p) ⟨hrow p hp, by omega⟩
          have : x = p := hi x p x1 hp e
          rw [this] at x2
          omega
      have b1 := h.best p hpn _ (hS _ (hrow p hp)) (by omega)
      have b2 := hg p hp
      exact idx_inj (((hr.ndp hpn).2.1 _).mpr ⟨by omega, by have := hS _ (hrow p hp); omega⟩) (Nat.le_antisymm b2 b1)
  exact fun p hp => key (T p) p hp rfl
/-- every other giving is bettered by one level -/
theorem trade_other (hr : RkOk n n R) (h : Trade n R g T) (hl : g'.length = n) (hb : ∀ p, p < n → 0 ≤ gv g' p ∧ gv g' p < n) (hi : ∀ p q, p < n → q < n → gv g' p = gv g' q → p = q) (hne : ∃ p, p < n ∧ gv g' p ≠ gv g p) :
    ∃ t, (∀ p, p < n → T p = t → spot R p (gv g p) ≤ spot R p (gv g' p)) ∧ ∃ p, p < n ∧ T p = t ∧ spot R p (gv g p) < spot R p (gv g' p) := by
  have key : ∀ t, (∃ p, p < n ∧ gv g' p ≠ gv g p ∧ T p = t) → ∃ t, (∃ p, p < n ∧ gv g' p ≠ gv g p ∧ T p = t) ∧ ∀ q, q < n → T q < t → gv g' q = gv g q := by
    intro t
    induction t using Nat.strongRecOn with
    | ind t ih =>
      intro hp
      by_cases z : ∀ q, q < n → T q < t → gv g' q = gv g q
      · exact ⟨t, hp, z⟩
      · have : ∃ q, q < n ∧ T q < t ∧ gv g' q ≠ gv g q := by
          refine Classical.byContradiction fun w => z fun q h1 h2 => Classical.byContradiction fun h3 => w ⟨q, h1, h2, h3⟩
        obtain ⟨q, q1, q2, q3⟩ := this
        exact ih (T q) q2 ⟨q, q1, q3, rfl⟩
  obtain ⟨p0, p1, p2⟩ := hne
  obtain ⟨t, ⟨p, q1, q2, q3⟩, hall⟩ := key (T p0) ⟨p0, p1, p2, rfl⟩
  have hge : ∀ q, q < n → T q = t → spot R q (gv g q) ≤ spot R q (gv g' q) := fun q hq ht => by
    have hbq := hb q hq
    have a1 : t ≤ T (gv g' q).toNat := by
      by_cases z : t ≤ T (gv g' q).toNat
      · exact z
      · exfalso
        obtain ⟨x, ⟨x1, x2⟩, e⟩ := surj_on (n := n) (A := fun q => q < n ∧ T q < t) (f := fun q => (gv g q).toNat) (fun _ h => h.1) (fun q ⟨q1, q2⟩ => ⟨(h.gn q1).1, by rw [h.lev q q1]; exact q2⟩) (fun q w ⟨q1, _⟩ ⟨w1, _⟩ e => h.injn q1 w1 e) (y := (gv g' q).toNat) ⟨by omega, by omega⟩
        have e1 := hall x x1 x2
        have hbx := hb x x1
        have e : (gv g x).toNat = (gv g' q).toNat := e
        have : x = q := hi x q x1 hq (by rw [← e1] at e; omega)
        rw [this] at x2
        omega
    have := h.best q hq _ (show (gv g' q).toNat < n by omega) (by omega)
    rw [show (((gv g' q).toNat : Nat) : Int) = gv g' q by omega] at this
    exact this
  refine ⟨t, hge, p, q1, q3, ?_⟩
  have h1 := hge p q1 q3
  have h2 : spot R p (gv g p) ≠ spot R p (gv g' p) := fun z => q2 (idx_inj (((hr.ndp q1).2.1 _).mpr (h.b p q1)) z).symm
  omega
end
end S

namespace S
open Z PySem PySem.Spec PyProof.Rows L2
/-! W74: trades: runs and rings (plain). -/
def blF (R : List (List Int)) (left : List Nat) (p : Nat) : Option Int := (rk R p).find? fun t => decide (t ∈ ups left)
def blN (R : List (List Int)) (left : List Nat) (p : Nat) : Nat := ((blF R left p).getD 0).toNat
structure Part (n : Nat) (R : List (List Int)) (left : List Nat) (g : List Int) (T : Nat → Nat) (k N : Nat) : Prop where
  l : g.length = n
  nd : left.Nodup
  lt : ∀ p ∈ left, p < n
  kN : k ≤ N
  out : ∀ p, p < n → p ∉ left → T p < k ∧ (0 ≤ gv g p ∧ gv g p < n) ∧ (gv g p).toNat ∉ left ∧ T (gv g p).toNat = T p
  in_ : ∀ p ∈ left, T p = N
  inj : ∀ p q, p < n → q < n → p ∉ left → q ∉ left → gv g p = gv g q → p = q
  best : ∀ p, p < n → p ∉ left → ∀ q, q < n → T p ≤ T q → spot R p (gv g p) ≤ spot R p (q : Int)
section
variable {n k N : Nat} {R : List (List Int)} {g g' : List Int} {T : Nat → Nat} {left A : List Nat}
theorem bl_ok (hr : RkOk n n R) {p : Nat} (hp : p < n) (hl : ∀ q ∈ left, q < n) (hne : left ≠ []) : blF R left p = some ((blN R left p : Nat) : Int) ∧ blN R left p ∈ left ∧ ∀ q ∈ left, spot R p ((blN R left p : Nat) : Int) ≤ spot R p (q : Int) := by
  obtain ⟨r1, r2, r3⟩ := hr.ndp hp
  unfold blN
  cases e : blF R left p with
  | none =>
    cases hc : left with
    | nil => exact absurd hc hne
    | cons a w =>
      have ha : a ∈ left := by rw [hc]; exact List.mem_cons_self ..
      have := List.find?_eq_none.mp e (a : Int) ((r2 _).mpr ⟨by omega, by have := hl a ha; omega⟩)
      exact absurd (decide_eq_true (mem_ups.mpr ⟨a, ha, rfl⟩)) this
  | some t =>
    have h1 := List.find?_some e
    obtain ⟨i, hi, rfl⟩ := mem_ups.mp (of_decide_eq_true h1)
    refine ⟨rfl, hi, fun q hq => ?_⟩
    exact find_min e (q : Int) (decide_eq_true (mem_ups.mpr ⟨q, hq, rfl⟩))
theorem part_init (hg : g.length = n) : Part n R (List.range n) g (fun _ => N) 0 N :=
  ⟨hg, List.nodup_range, fun p h => List.mem_range.mp h, Nat.zero_le _, fun p h hn => absurd (List.mem_range.mpr h) hn, fun _ _ => rfl, fun p q h _ hn => absurd (List.mem_range.mpr h) hn, fun p h hn => absurd (List.mem_range.mpr h) hn⟩
theorem part_step (hr : RkOk n n R) (h : Part n R left g T k N) (hk : k < N) (hA : ∀ p ∈ A, p ∈ left) (hc : ∀ p ∈ A, blN R left p ∈ A) (hi : ∀ p ∈ A, ∀ q ∈ A, blN R left p = blN R left q → p = q) (hl : g'.length = n) (hgA : ∀ p ∈ A, gv g' p = ((blN R left p : Nat) : Int)) (hgo : ∀ p, p < n → p ∉ A → gv g' p = gv g p) :
    Part n R (left.filter fun p => decide (p ∉ A)) g' (fun p => if p ∈ A then k else T p) (k + 1) N := by
  have hm : ∀ p, p ∈ left.filter (fun p => decide (p ∉ A)) ↔ p ∈ left ∧ p ∉ A := fun p => by rw [List.mem_filter, decide_eq_true_eq]
  have hnm : ∀ p, p ∉ left.filter (fun p => decide (p ∉ A)) → p ∈ A ∨ p ∉ left := fun p h => by
    rw [hm] at h
    by_cases z : p ∈ A
    · exact .inl z
    · exact .inr fun w => h ⟨w, z⟩
  have hne : ∀ p ∈ A, left ≠ [] := fun p hp e => by have := hA p hp; rw [e] at this; cases this
  refine ⟨hl, h.nd.filter _, fun p hp => h.lt p ((hm p).mp hp).1, by omega, fun p hp hn => ?_, fun p hp => ?_, fun p q hp hq h1 h2 e => ?_, fun p hp hn q hq hT => ?_⟩
  · rcases hnm p hn with ha | ho
    · have hb := hc p ha
      have hbl := h.lt _ (hA _ hb)
      rw [hgA p ha, Int.toNat_natCast]
      refine ⟨by rw [if_pos ha]; omega, ⟨by omega, by omega⟩, fun z => ((hm _).mp z).2 hb, by rw [if_pos hb, if_pos ha]⟩
    · have hpa : p ∉ A := fun z => ho (hA p z)
      obtain ⟨o1, o2, o3, o4⟩ := h.out p hp ho
      rw [hgo p hp hpa]
      refine ⟨by rw [if_neg hpa]; omega, o2, fun z => o3 ((hm _).mp z).1, by rw [if_neg hpa, if_neg (fun z => o3 (hA _ z))]; exact o4⟩
  · obtain ⟨p1, p2⟩ := (hm p).mp hp
    rw [if_neg p2]
    exact h.in_ p p1
  · rcases hnm p h1 with ha | ho
    · rcases hnm q h2 with ha2 | ho2
      · rw [hgA p ha, hgA q ha2] at e
        exact hi p ha q ha2 (by omega)
      · have hqa : q ∉ A := fun z => ho2 (hA q z)
        obtain ⟨o1, o2, o3, o4⟩ := h.out q hq ho2
        rw [hgA p ha, hgo q hq hqa] at e
        exfalso
        have : (gv g q).toNat = blN R left p := by omega
        rw [this] at o3
        exact o3 (hA _ (hc p ha))
    · have hpa : p ∉ A := fun z => ho (hA p z)
      rcases hnm q h2 with ha2 | ho2
      · obtain ⟨o1, o2, o3, o4⟩ := h.out p hp ho
        rw [hgA q ha2, hgo p hp hpa] at e
        exfalso
        have : (gv g p).toNat = blN R left q := by omega
        rw [this] at o3
        exact o3 (hA _ (hc q ha2))
      · have hqa : q ∉ A := fun z => ho2 (hA q z)
        rw [hgo p hp hpa, hgo q hq hqa] at e
        exact h.inj p q hp hq ho ho2 e
  · rcases hnm p hn with ha | ho
    · rw [if_pos ha] at hT
      rw [hgA p ha]
      have hql : q ∈ left := by
        by_cases z : q ∈ left
        · exact z
        · have hqa : q ∉ A := fun w => z (hA q w)
          rw [if_neg hqa] at hT
          have := (h.out q hq z).1
          omega
      exact (bl_ok hr hp h.lt (hne p ha)).2.2 q hql
    · have hpa : p ∉ A := fun z => ho (hA p z)
      rw [if_neg hpa] at hT
      rw [hgo p hp hpa]
      refine h.best p hp ho q hq ?_
      by_cases z : q ∈ A
      · have h1 := h.in_ q (hA q z)
        have h2 := (h.out p hp ho).1
        omega
      · rw [if_neg z] at hT
        exact hT
theorem part_end (h : Part n R [] g T k N) : Trade n R g T :=
  ⟨h.l, fun p hp => (h.out p hp (by simp)).2.1, fun p q hp hq => h.inj p q hp hq (by simp) (by simp), fun p hp => (h.out p hp (by simp)).2.2.2, fun p hp => h.best p hp (by simp)⟩
end
/-! ### rings -/
def itF (f : Nat → Nat) : Nat → Nat → Nat
  | 0, x => x
  | k + 1, x => f (itF f k x)
def OnR (f : Nat → Nat) (N x : Nat) : Prop := ∃ k, 1 ≤ k ∧ k ≤ N ∧ itF f k x = x
section
variable {f : Nat → Nat} {N x y : Nat} {left : List Nat}
theorem it_add : ∀ {a b : Nat}, itF f (a + b) x = itF f a (itF f b x)
  | 0, b => by rw [Nat.zero_add]; rfl
  | a + 1, b => by
    rw [show a + 1 + b = (a + b) + 1 by omega]
    show f (itF f (a + b) x) = f (itF f a (itF f b x))
    rw [it_add]
theorem it_comm {a b : Nat} : itF f a (itF f b x) = itF f b (itF f a x) := by rw [← it_add, ← it_add, Nat.add_comm]
theorem it_f {a : Nat} : itF f a (f x) = f (itF f a x) := it_comm (a := a) (b := 1)
theorem onr_f (h : OnR f N x) : OnR f N (f x) := by
  obtain ⟨k, h1, h2, h3⟩ := h
  exact ⟨k, h1, h2, by rw [it_f, h3]⟩
theorem it_mul {k : Nat} (h : itF f k x = x) : ∀ a, itF f (a * k) x = x
  | 0 => by rw [Nat.zero_mul]; rfl
  | a + 1 => by rw [Nat.succ_mul, it_add, h, it_mul h a]
theorem onr_inj (hx : OnR f N x) (hy : OnR f N y) (e : f x = f y) : x = y := by
  obtain ⟨a, a1, a2, a3⟩ := hx
  obtain ⟨b, b1, b2, b3⟩ := hy
  have h1 : itF f (b * a) x = x := it_mul a3 b
  have h2 : itF f (a * b) y = y := it_mul b3 a
  have hpos : 1 ≤ a * b := Nat.mul_pos a1 b1
  obtain ⟨c, hc⟩ : ∃ c, a * b = c + 1 := ⟨a * b - 1, by omega⟩
  rw [Nat.mul_comm b a, hc] at h1
  rw [hc] at h2
  rw [← h1, ← h2]
  have e1 : itF f (c + 1) x = itF f c (f x) := it_f.symm
  have e2 : itF f (c + 1) y = itF f c (f y) := it_f.symm
  rw [e1, e2, e]
theorem it_mem (hf : ∀ p ∈ left, f p ∈ left) (hx : x ∈ left) : ∀ k, itF f k x ∈ left
  | 0 => hx
  | k + 1 => hf _ (it_mem hf hx k)
/-- far enough along one is on a ring -/
theorem it_onr (hf : ∀ p ∈ left, f p ∈ left) (hx : x ∈ left) {m : Nat} (hm : left.length ≤ m) : OnR f left.length (itF f m x) := by
  have hrep : ∃ i j, i < j ∧ j ≤ left.length ∧ itF f i x = itF f j x := by
    refine Classical.byContradiction fun w => ?_
    have hnd : ((List.range (left.length + 1)).map fun k => itF f k x).Nodup := nodup_map_on List.nodup_range fun i hi j hj e => by
      have hi := List.mem_range.mp hi
      have hj := List.mem_range.mp hj
      rcases Nat.lt_trichotomy i j with h | h | h
      · exact absurd ⟨i, j, h, by omega, e⟩ w
      · exact h
      · exact absurd ⟨j, i, h, by omega, e.symm⟩ w
    have := nodup_len (l2 := left) hnd fun z hz => by
      obtain ⟨k, _, rfl⟩ := List.mem_map.mp hz
      exact it_mem hf hx k
    rw [List.length_map, List.length_range] at this
    omega
  obtain ⟨i, j, hij, hj, e⟩ := hrep
  refine ⟨j - i, by omega, by omega, ?_⟩
  have e1 : itF f m x = itF f (m - i) (itF f i x) := by rw [← it_add]; congr 1; omega
  have e2 : itF f (j - i) (itF f i x) = itF f i x := by rw [← it_add, show j - i + i = j by omega, ← e]
  rw [e1, it_comm, e2]
theorem exists_onr (hf : ∀ p ∈ left, f p ∈ left) (hne : left ≠ []) : ∃ p ∈ left, OnR f left.length p := by
  cases hc : left with
  | nil => exact absurd hc hne
  | cons a w =>
    have ha : a ∈ left := by rw [hc]; exact List.mem_cons_self ..
    rw [← hc]
    exact ⟨_, it_mem hf ha left.length, it_onr hf ha (Nat.le_refl _)⟩
end
end S

namespace S
open Z PySem PySem.Spec PyProof.Rows L2
/-! W75: trades: the program's way. -/
abbrev pdD (R : List (List Int)) (left : List Nat) : D := .dct (nL left) (nL (left.map (blN R left)))
section
variable {n k N : Nat} {R : List (List Int)} {g g' : List Int} {T : Nat → Nat} {left A : List Nat} {f : Nat → Nat} {p : Nat}
theorem nL_ups : nL left = (ups left).map D.int := by
  unfold nL ups
  rw [List.map_map]
  rfl
theorem all_skN : (nL left).all D.sk = true := by
  rw [List.all_eq_true]
  intro d hd
  obtain ⟨i, _, rfl⟩ := List.mem_map.mp hd
  rfl
theorem mem_nLi {p : Nat} : D.int (p : Int) ∈ nL left ↔ p ∈ left := mem_nL
theorem pointers_ok (hr : RkOk n n R) (hn : n ≤ 4) (hl : ∀ p ∈ left, p < n) (hnd : left.Nodup) : c_pointers [⟨RD R, 0⟩, ⟨.lst (nL left), 1⟩] = .ok (⟨pdD R left, 1⟩, [⟨RD R, 0⟩, ⟨.lst (nL left), 1⟩]) := by
  have hR := hr.l
  have hll : left.length ≤ n := by
    have := nodup_len (l2 := List.range n) hnd fun x hx => List.mem_range.mpr (hl x hx)
    rw [List.length_range] at this
    exact this
  have hbest : ∀ p ∈ left, c_best_left [⟨iD (rk R p), 0⟩, ⟨.lst (nL left), 1⟩] = .ok (⟨.int (blN R left p : Nat), 0⟩, [⟨iD (rk R p), 0⟩, ⟨.lst (nL left), 1⟩]) := fun p hp => by
    have e := best_left_ok (r := rk R p) (left := ups left)
    have eb := (bl_ok hr (hl p hp) hl (fun z => by rw [z] at hp; cases hp)).1
    unfold blF at eb
    rw [← nL_ups, eb] at e
    exact e
  refine Ret.eq ?_
  simp (maxSteps := 2000000) -implicitDefEqProofs [-List.getD_eq_getElem?_getD, -own_cons, own_consB, ixT0, ixT1, ixT2, ixT3, ixT4, c_pointers, m_pointers]
  refine Ret_for left (fun (i : Nat) => D.int (i : Int)) [3] (fun (s : List Nat) ρ => ρ.set 2 (some ⟨.dct (nL s) (nL (s.map (blN R left))), 1⟩)) (fun done _ s => s = done) [] rfl rfl rfl (fun done x rest s j e hI => ?_) fun s j hI => ?_
  · subst hI
    have hx : x ∈ left := by rw [e]; simp
    have hsl : s.length ≤ 4 := by
      have := congrArg List.length e
      rw [List.length_append, List.length_cons] at this
      omega
    have hnm : D.int (x : Int) ∉ nL s := fun z => by
      have hs := mem_nLi.mp z
      rw [e] at hnd
      exact (List.nodup_append.mp hnd).2.2 x hs x (List.mem_cons_self ..) rfl
    have hput : putOk (.int (x : Int)) (nL s) = true := putOk_s rfl all_skN (by unfold nL; rw [List.length_map]; omega)
    have e2 : nL s ++ [D.int (x : Int)] = nL (s ++ [x]) := by unfold nL; rw [List.map_append]; rfl
    have e3 : nL (s.map (blN R left)) ++ [D.int (blN R left x : Nat)] = nL ((s ++ [x]).map (blN R left)) := by unfold nL; rw [List.map_append, List.map_append]; rfl
    simp (maxSteps := 2000000) -implicitDefEqProofs [-List.getD_eq_getElem?_getD, -own_cons, own_consB, ixT0, ixT1, ixT2, ixT3, ixT4, step1, b_pointers_1, ixR (k := 0) (k' := 0) (show x < R.length by have := hl x hx; omega), hbest x hx, hput, dPutK_new hnm, dPutV_new hnm, e2, e3]
  · subst hI
    simp (maxSteps := 2000000) -implicitDefEqProofs [-List.getD_eq_getElem?_getD, -own_cons, own_consB, ixT0, ixT1, ixT2, ixT3, ixT4]
noncomputable def onB (f : Nat → Nat) (N p : Nat) : Bool := @decide (OnR f N p) (Classical.propDecidable _)
theorem onB_iff : onB f N p = true ↔ OnR f N p := @decide_eq_true_iff _ (Classical.propDecidable _)
theorem ix_pd {p : Nat} (hp : p ∈ left) : fIx [⟨pdD R left, k⟩, ⟨.int (p : Int), N⟩] = .ok ⟨.int (blN R left p : Nat), 0⟩ := by
  refine ixDs rfl all_skN ?_
  have := dGet_map (l := left) (g := fun (i : Nat) => D.int (i : Int)) (f := fun i => D.int (blN R left i : Nat)) hp (fun y hy e => by
    have : y = p := by injection e with e; omega
    rw [this])
  unfold nL
  rw [List.map_map]
  exact this
theorem is_on_ring_ok (hf : ∀ p ∈ left, blN R left p ∈ left) (hp : p ∈ left) (hll : left.length ≤ 100) : c_is_on_ring [⟨pdD R left, 1⟩, ⟨.int (p : Int), 0⟩] = .ok (⟨.bl (onB (blN R left) left.length p), 0⟩, [⟨pdD R left, 1⟩, ⟨.int (p : Int), 0⟩]) := by
  have elen : fLen [⟨pdD R left, 1⟩] = .ok ⟨.int (left.length : Nat), 0⟩ := by
    show (if (nL left).all D.sk then Z.R.ok (Cell.fz (.int ((nL left).length : Nat))) else _) = _
    rw [if_pos all_skN]
    unfold nL
    rw [List.length_map]
    rfl
  refine Ret.eq ?_
  simp (maxSteps := 2000000) -implicitDefEqProofs [-List.getD_eq_getElem?_getD, -own_cons, own_consB, ixT0, ixT1, ixT2, ixT3, ixT4, c_is_on_ring, m_is_on_ring, elen, rgD_nat']
  refine ⟨by omega, ?_⟩
  refine Ret_range left.length [3] (fun (s : Nat) ρ => ρ.set 2 (some ⟨.int (s : Int), 0⟩)) (fun i s => s = itF (blN R left) i p ∧ ∀ j, 1 ≤ j → j ≤ i → itF (blN R left) j p ≠ p) p rfl rfl ⟨rfl, fun j h1 h2 => by omega⟩ (fun i s j hi hI => ?_) fun s j hI => ?_
  · obtain ⟨i1, i2⟩ := hI
    have hs : s ∈ left := by rw [i1]; exact it_mem hf hp i
    have e1 := ix_pd (R := R) (k := 1) (N := 0) hs
    have e2 : itF (blN R left) (i + 1) p = blN R left s := by rw [i1]; rfl
    by_cases hc : blN R left s = p
    · have hon : onB (blN R left) left.length p = true := onB_iff.mpr ⟨i + 1, by omega, by omega, by rw [e2]; exact hc⟩
      rw [hc] at e1
      simp (maxSteps := 2000000) -implicitDefEqProofs [-List.getD_eq_getElem?_getD, -own_cons, own_consB, ixT0, ixT1, ixT2, ixT3, ixT4, step1, b_is_on_ring_1, e1, hon]
    · have hc' : ((blN R left s : Nat) : Int) = (p : Int) ↔ False := by
        constructor
        · intro z; exact hc (by omega)
        · exact False.elim
      simp (maxSteps := 2000000) -implicitDefEqProofs [-List.getD_eq_getElem?_getD, -own_cons, own_consB, ixT0, ixT1, ixT2, ixT3, ixT4, step1, b_is_on_ring_1, e1, hc']
      refine ⟨blN R left s, rfl, e2.symm, fun j h1 h2 => ?_⟩
      by_cases h3 : j ≤ i
      · exact i2 j h1 h3
      · rw [show j = i + 1 by omega, e2]
        exact hc
  · obtain ⟨i1, i2⟩ := hI
    have hon : onB (blN R left) left.length p = false := by
      cases z : onB (blN R left) left.length p with
      | false => rfl
      | true =>
        obtain ⟨k, k1, k2, k3⟩ := onB_iff.mp z
        exact absurd k3 (i2 k k1 k2)
    simp (maxSteps := 2000000) -implicitDefEqProofs [-List.getD_eq_getElem?_getD, -own_cons, own_consB, ixT0, ixT1, ixT2, ixT3, ixT4, hon]
theorem ring_members_e (hf : ∀ p ∈ left, blN R left p ∈ left) (hll : left.length ≤ 60) (hnd : left.Nodup) : ∃ A : List Nat, c_ring_members [⟨pdD R left, 1⟩] = .ok (⟨.lst (nL A), 1⟩, [⟨pdD R left, 1⟩]) ∧ A.Nodup ∧ ∀ p, p ∈ A ↔ p ∈ left ∧ OnR (blN R left) left.length p := by
  have hp : ((isort (ups left)).map D.int).Perm (nL left) := by
    rw [nL_ups]
    exact isort_perm.map D.int
  obtain ⟨sl, e, hsl⟩ := perm_nat hp
  have es : fSortDI [⟨pdD R left, 1⟩] = .ok ⟨.lst (nL sl), 1⟩ := by
    have := f_sortDI (ks := ups left) (ds := nL (left.map (blN R left))) (k := 1) (by unfold ups; rw [List.length_map]; omega)
    rw [e] at this
    rw [← nL_ups] at this
    exact this
  refine ⟨sl.filter (onB (blN R left) left.length), ?_, (((List.Perm.nodup_iff hsl).mpr hnd).filter _), fun p => by rw [List.mem_filter, hsl.mem_iff, onB_iff]⟩
  refine Ret.eq ?_
  simp (maxSteps := 2000000) -implicitDefEqProofs [-List.getD_eq_getElem?_getD, -own_cons, own_consB, ixT0, ixT1, ixT2, ixT3, ixT4, c_ring_members, m_ring_members, es]
  have hsll := hsl.length_eq
  refine ⟨by omega, ?_⟩
  refine Ret_compF sl (fun (i : Nat) => D.int (i : Int)) (onB (blN R left) left.length) (fun (i : Nat) => D.int (i : Int)) rfl (fun p hp => ?_) ?_
  · have e1 := is_on_ring_ok (R := R) hf (hsl.mem_iff.mp hp) (by omega)
    cases hb : onB (blN R left) left.length p <;> rw [hb] at e1 <;> simp (maxSteps := 2000000) -implicitDefEqProofs [-List.getD_eq_getElem?_getD, -own_cons, own_consB, ixT0, ixT1, ixT2, ixT3, ixT4, comp1, t_ring_members_1, e_ring_members_2, e1]
  · simp (maxSteps := 2000000) -implicitDefEqProofs [-List.getD_eq_getElem?_getD, -own_cons, own_consB, ixT0, ixT1, ixT2, ixT3, ixT4, nL]
theorem left_len (hnd : left.Nodup) (hl : ∀ p ∈ left, p < n) : left.length ≤ n := by
  have := nodup_len (l2 := List.range n) hnd fun x hx => List.mem_range.mpr (hl x hx)
  rw [List.length_range] at this
  exact this
theorem filt_len {A : List Nat} {a : Nat} (ha : a ∈ left) (haA : a ∈ A) : (left.filter fun p => decide (p ∉ A)).length < left.length := by
  induction left with
  | nil => cases ha
  | cons x l ih =>
    rw [List.filter_cons]
    by_cases hx : x ∈ A
    · rw [if_neg (by simpa using hx)]
      have := List.length_filter_le (fun p => decide (p ∉ A)) l
      rw [List.length_cons]
      omega
    · rw [if_pos (by simpa using hx), List.length_cons, List.length_cons]
      rcases List.mem_cons.mp ha with rfl | ha
      · exact absurd haA hx
      · have := ih ha
        omega
theorem trades_giving_r (hr : RkOk n n R) (hn0 : 0 < n) (hn : n ≤ 4) {Q : Cell × List Cell → Prop} (kk : ∀ (g : List Int) (T : Nat → Nat), Trade n R g T → Q (⟨iD g, 0⟩, [⟨RD R, 0⟩])) : Ret (c_trades_giving [⟨RD R, 0⟩]) Q := by
  have hR := hr.l
  have e0 : rgD 0 (n : Int) = nL (List.range n) := rgD_nL
  have erk : rgOkB 0 (n : Int) = true := by unfold rgOkB; simp; omega
  simp (maxSteps := 2000000) -implicitDefEqProofs [-List.getD_eq_getElem?_getD, -own_cons, own_consB, ixT0, ixT1, ixT2, ixT3, ixT4, c_trades_giving, m_trades_giving]
  refine ⟨by omega, ?_⟩
  refine Ret_comp R iD (fun _ => .int (-1)) rfl (fun x _ => by simp (maxSteps := 2000000) -implicitDefEqProofs [-List.getD_eq_getElem?_getD, -own_cons, own_consB, ixT0, ixT1, ixT2, ixT3, ixT4, comp1, e_trades_giving_1]) ?_
  rw [noneC hR]
  simp (maxSteps := 2000000) -implicitDefEqProofs [-List.getD_eq_getElem?_getD, -own_cons, own_consB, ixT0, ixT1, ixT2, ixT3, ixT4, lenR, hR, e0, erk]
  refine ⟨by omega, ?_⟩
  refine Ret_rangeZ n [4, 5, 6, 7] (fun (s : List Int × List Nat) ρ => (ρ.set 1 (some ⟨.lst (s.1.map D.int), 1⟩)).set 3 (some ⟨.lst (nL s.2), 1⟩)) (fun i s => (∃ T, Part n R s.2 s.1 T i (n + 1)) ∧ s.2.length ≤ n - i) (noneG n, List.range n) rfl [7] (by simp) rfl ⟨⟨_, part_init (List.length_replicate ..)⟩, by simp⟩ (fun i s j hi hI hz => ?_) fun s j hI _ => ?_
  · obtain ⟨g, left⟩ := s
    obtain ⟨⟨T, P⟩, hlen⟩ := hI
    dsimp only at P hlen
    have hlt := P.lt
    have hnd := P.nd
    have hll := left_len hnd hlt
    have ep := pointers_ok hr hn hlt hnd
    have hbl : ∀ p ∈ left, blN R left p ∈ left := fun p hp => (bl_ok hr (hlt p hp) hlt (fun z => by rw [z] at hp; cases hp)).2.1
    obtain ⟨A, eA, nA, mA⟩ := ring_members_e (R := R) hbl (by omega) hnd
    have hAl : ∀ p ∈ A, p ∈ left := fun p hp => ((mA p).mp hp).1
    have hAn : A.length ≤ n := left_len nA fun p hp => hlt p (hAl p hp)
    simp (maxSteps := 2000000) -implicitDefEqProofs [-List.getD_eq_getElem?_getD, -own_cons, own_consB, ixT0, ixT1, ixT2, ixT3, ixT4, step1, b_trades_giving_5, ep, eA]
    refine Ret_forZ A (fun (i : Nat) => D.int (i : Int)) [7] (fun (s : List Int) ρ => ρ.set 1 (some ⟨.lst (s.map D.int), 1⟩)) (fun done _ s => s.length = n ∧ ∀ p, p < n → gv s p = if p ∈ done then ((blN R left p : Nat) : Int) else gv g p) g rfl [7] (by simpa using hz) rfl ⟨P.l, fun p _ => by simp⟩ (fun done x rest s j2 e hI2 hz2 => ?_) fun s j2 hI2 hz2 => ?_
    · obtain ⟨i1, i2⟩ := hI2
      have hx : x ∈ left := hAl x (by rw [e]; simp)
      have hxn := hlt x hx
      have e1 := ix_pd (R := R) (k := 1) (N := 0) hx
      have e2 := setI (t := ((blN R left x : Nat) : Int)) (show x < s.length by omega)
      simp (maxSteps := 2000000) -implicitDefEqProofs [-List.getD_eq_getElem?_getD, -own_cons, own_consB, ixT0, ixT1, ixT2, ixT3, ixT4, step1, b_trades_giving_2, e1, e2]
      refine ⟨s.set x ((blN R left x : Nat) : Int), by rw [List.map_set], by rw [List.length_set]; exact i1, fun p hp => ?_⟩
      rw [gv_set]
      by_cases hxp : x = p
      · rw [if_pos ⟨hxp, by omega⟩, if_pos (.inr hxp.symm), hxp]
      · rw [if_neg (fun z => hxp z.1), i2 p hp]
        by_cases hpd : p ∈ done
        · rw [if_pos hpd, if_pos (.inl hpd)]
        · rw [if_neg hpd, if_neg (fun z => z.elim hpd fun z => hxp z.symm)]
    · obtain ⟨i1, i2⟩ := hI2
      have hz3 : ownB (j2 7) = true := hz2 7 (by simp)
      simp (maxSteps := 2000000) -implicitDefEqProofs [-List.getD_eq_getElem?_getD, -own_cons, own_consB, ixT0, ixT1, ixT2, ixT3, ixT4]
      refine ⟨⟨hz3, by omega⟩, ?_⟩
      refine Ret_compF left (fun (i : Nat) => D.int (i : Int)) (fun p => decide (p ∉ A)) (fun (i : Nat) => D.int (i : Int)) rfl (fun p hp => ?_) ?_
      · have e1 := f_inNL (i := p) (l := A) (k := 0) (k' := 1) (neg := true)
        by_cases hc : p ∈ A
        · rw [decide_eq_true hc] at e1
          simp (maxSteps := 2000000) -implicitDefEqProofs [-List.getD_eq_getElem?_getD, -own_cons, own_consB, ixT0, ixT1, ixT2, ixT3, ixT4, comp1, t_trades_giving_3, e_trades_giving_4, nL, e1, hc]
        · rw [decide_eq_false hc] at e1
          simp (maxSteps := 2000000) -implicitDefEqProofs [-List.getD_eq_getElem?_getD, -own_cons, own_consB, ixT0, ixT1, ixT2, ixT3, ixT4, comp1, t_trades_giving_3, e_trades_giving_4, nL, e1, hc]
      · have P2 := part_step (A := A) (g' := s) hr P (by omega) hAl (fun p hp => (mA _).mpr ⟨hbl p (hAl p hp), onr_f ((mA p).mp hp).2⟩) (fun p hp q hq e => onr_inj ((mA p).mp hp).2 ((mA q).mp hq).2 e) i1
          (fun p hp => by rw [i2 p (hlt p (hAl p hp)), if_pos hp]) (fun p hp hpA => by rw [i2 p hp, if_neg hpA])
        have hlen2 : (left.filter fun p => decide (p ∉ A)).length ≤ n - (i + 1) := by
          by_cases hne : left = []
          · rw [hne]; simp
          · obtain ⟨a, ha, hon⟩ := exists_onr hbl hne
            have := filt_len ha ((mA a).mpr ⟨ha, hon⟩)
            omega
        simp (maxSteps := 2000000) -implicitDefEqProofs [-List.getD_eq_getElem?_getD, -own_cons, own_consB, ixT0, ixT1, ixT2, ixT3, ixT4]
        refine ⟨s, left.filter fun p => decide (p ∉ A), ⟨rfl, ?_⟩, ⟨⟨_, P2⟩, hlen2⟩, hz3⟩
        simp [nL]
  · obtain ⟨g, left⟩ := s
    obtain ⟨⟨T, P⟩, hlen⟩ := hI
    dsimp only at P hlen
    have : left = [] := List.length_eq_zero_iff.mp (by omega)
    subst this
    simp (maxSteps := 2000000) -implicitDefEqProofs [-List.getD_eq_getElem?_getD, -own_cons, own_consB, ixT0, ixT1, ixT2, ixT3, ixT4]
    exact kk g T (part_end P)
end
end S

namespace S
open Z PySem PySem.Spec PyProof.Rows L2
/-! W76: trades: the law's rings. -/
section
variable {l : List D} {n k N : Nat} {R : List (List Int)} {g g' : List Int} {T : Nat → Nat} {left A : List Nat} {f : Nat → Nat} {p : Nat}
theorem law_best_ok (hr : RkOk n n R) (hn : n ≤ 4) (hp : p < n) (hl : ∀ q ∈ left, q < n) (hne : left ≠ []) : c__law_best [⟨iD (rk R p), 0⟩, ⟨.lst (nL left), 1⟩] = .ok (⟨.int (blN R left p : Nat), 0⟩, [⟨iD (rk R p), 0⟩, ⟨.lst (nL left), 1⟩]) := by
  have eb := (bl_ok hr hp hl hne).1
  obtain ⟨r1, r2, r3⟩ := hr.ndp hp
  unfold blF at eb
  have eit : itemsOf (iD (rk R p)) = some ((rk R p).map D.int) := rfl
  refine Ret.eq ?_
  simp (maxSteps := 2000000) -implicitDefEqProofs [-List.getD_eq_getElem?_getD, -own_cons, own_consB, ixT0, ixT1, ixT2, ixT3, ixT4, c__law_best, m__law_best, eit]
  refine ⟨by omega, ?_⟩
  refine Ret_compF (rk R p) D.int (fun t => decide (t ∈ ups left)) D.int rfl (fun t ht => ?_) ?_
  · have e1 : fIn false [⟨.int t, 0⟩, ⟨.lst (nL left), 1⟩] = .ok ⟨.bl (false ^^ decide (t ∈ ups left)), 0⟩ := by rw [nL_ups]; exact inI
    by_cases hc : t ∈ ups left
    · rw [decide_eq_true hc] at e1
      simp (maxSteps := 2000000) -implicitDefEqProofs [-List.getD_eq_getElem?_getD, -own_cons, own_consB, ixT0, ixT1, ixT2, ixT3, ixT4, comp1, t__law_best_1, e__law_best_2, e1, hc]
    · rw [decide_eq_false hc] at e1
      simp (maxSteps := 2000000) -implicitDefEqProofs [-List.getD_eq_getElem?_getD, -own_cons, own_consB, ixT0, ixT1, ixT2, ixT3, ixT4, comp1, t__law_best_1, e__law_best_2, e1, hc]
  · have hh : ((rk R p).filter fun t => decide (t ∈ ups left)).head? = some ((blN R left p : Nat) : Int) := by rw [List.head?_filter]; exact eb
    cases e : (rk R p).filter fun t => decide (t ∈ ups left) with
    | nil => rw [e] at hh; cases hh
    | cons a w =>
      rw [e] at hh
      have ha : a = ((blN R left p : Nat) : Int) := Option.some.inj hh
      subst ha
      have e0 : fIx [⟨.lst (D.int ((blN R left p : Nat) : Int) :: w.map D.int), 1⟩, ⟨.int 0, 0⟩] = .ok ⟨.int (blN R left p : Nat), 0⟩ := ixL (i := 0) (by decide) rfl
      simp (maxSteps := 2000000) -implicitDefEqProofs [-List.getD_eq_getElem?_getD, -own_cons, own_consB, ixT0, ixT1, ixT2, ixT3, ixT4, e0]
theorem ix_last3 {acc : List D} {x : D} {k k' : Nat} (hk : k ≤ 1) : fIx [⟨.lst (acc ++ [x]), k⟩, ⟨.int (-1), k'⟩] = .ok ⟨x, 0⟩ := by
  have e : atI (acc ++ [x]) (-1) = some x := by
    unfold atI ixN
    rw [if_neg (by decide), if_pos (by simp; omega)]
    simp
    have : ((-1 : Int) + ((acc.length : Int) + 1)).toNat = acc.length := by omega
    rw [this]
    simp
  show (if k ≤ 1 then _ else _) = _
  rw [if_pos hk, e]
  rfl
theorem onr_it {N x : Nat} (h : OnR f N x) : ∀ a, OnR f N (itF f a x)
  | 0 => h
  | a + 1 => onr_f (onr_it h a)
/-- what the walk along a ring gathers -/
def ringL (f : Nat → Nat) (h r : Nat) : List Nat := (List.range (r + 1)).map fun a => itF f a h
theorem ring_snoc {h r : Nat} : ringL f h (r + 1) = ringL f h r ++ [itF f (r + 1) h] := by
  unfold ringL
  rw [List.range_succ, List.map_append]
  rfl
theorem ring_last {h : Nat} : ∀ r, ∃ w, ringL f h r = w ++ [itF f r h]
  | 0 => ⟨[], rfl⟩
  | r + 1 => ⟨_, ring_snoc⟩
theorem mem_ring {h r x : Nat} : x ∈ ringL f h r ↔ ∃ a, a ≤ r ∧ itF f a h = x := by
  unfold ringL
  rw [List.mem_map]
  constructor
  · rintro ⟨a, ha, rfl⟩
    exact ⟨a, by have := List.mem_range.mp ha; omega, rfl⟩
  · rintro ⟨a, ha, rfl⟩
    exact ⟨a, List.mem_range.mpr (by omega), rfl⟩
theorem law_rings_r (hr : RkOk n n R) (hn0 : 0 < n) (hn : n ≤ 4) {Q : Cell × List Cell → Prop} (kk : ∀ (g : List Int) (T : Nat → Nat), Trade n R g T → Q (⟨iD g, 0⟩, [⟨RD R, 0⟩])) : Ret (c__law_rings [⟨RD R, 0⟩]) Q := by
  have hR := hr.l
  have e0 : rgD 0 (n : Int) = nL (List.range n) := rgD_nL
  have erk : rgOkB 0 (n : Int) = true := by unfold rgOkB; simp; omega
  simp (maxSteps := 2000000) -implicitDefEqProofs [-List.getD_eq_getElem?_getD, -own_cons, own_consB, ixT0, ixT1, ixT2, ixT3, ixT4, c__law_rings, m__law_rings]
  refine ⟨by omega, ?_⟩
  refine Ret_comp R iD (fun _ => .int (-1)) rfl (fun x _ => by simp (maxSteps := 2000000) -implicitDefEqProofs [-List.getD_eq_getElem?_getD, -own_cons, own_consB, ixT0, ixT1, ixT2, ixT3, ixT4, comp1, e__law_rings_1]) ?_
  rw [noneC hR]
  simp (maxSteps := 2000000) -implicitDefEqProofs [-List.getD_eq_getElem?_getD, -own_cons, own_consB, ixT0, ixT1, ixT2, ixT3, ixT4, lenR, hR, e0, erk]
  refine ⟨by omega, ?_⟩
  refine Ret_rangeZ n [4, 5, 6, 7, 8, 9] (fun (s : List Int × List Nat) ρ => (ρ.set 1 (some ⟨.lst (s.1.map D.int), 1⟩)).set 3 (some ⟨.lst (nL s.2), 1⟩)) (fun i s => (∃ T, Part n R s.2 s.1 T i (n + 1)) ∧ s.2.length ≤ n - i) (noneG n, List.range n) rfl [9] (by simp) rfl ⟨⟨_, part_init (List.length_replicate ..)⟩, by simp⟩ (fun i s j hi hI hz => ?_) fun s j hI _ => ?_
  · obtain ⟨g, left⟩ := s
    obtain ⟨⟨T, P⟩, hlen⟩ := hI
    dsimp only at P hlen
    have hz9 : ownB (j 9) = true := hz 9 (by simp)
    have hlt := P.lt
    have hnd := P.nd
    have hll := left_len hnd hlt
    have hbl : ∀ p ∈ left, blN R left p ∈ left := fun p hp => (bl_ok hr (hlt p hp) hlt (fun z => by rw [z] at hp; cases hp)).2.1
    by_cases hne : left = []
    · subst hne
      have e00 : nL [] = [] := rfl
      simp (maxSteps := 2000000) -implicitDefEqProofs [-List.getD_eq_getElem?_getD, -own_cons, own_consB, ixT0, ixT1, ixT2, ixT3, ixT4, step1, b__law_rings_7, e00]
      have hA := part_step (A := []) (g' := g) hr P (by omega) (fun p hp => nomatch hp) (fun p hp => nomatch hp) (fun p hp => nomatch hp) P.l (fun p hp => nomatch hp) (fun p hp _ => rfl)
      exact ⟨g, [], ⟨rfl, rfl⟩, ⟨⟨_, hA⟩, by simp⟩, hz9⟩
    · have hemp : (nL left).isEmpty = false := by
        cases q : left with
        | nil => exact absurd q hne
        | cons _ _ => rfl
      obtain ⟨x0, w, hx0⟩ : ∃ x0 w, left = x0 :: w := by
        cases q : left with
        | nil => exact absurd q hne
        | cons a b => exact ⟨a, b, rfl⟩
      have hx0m : x0 ∈ left := by rw [hx0]; exact List.mem_cons_self ..
      have eh : fIx [⟨.lst (nL left), 1⟩, ⟨.int 0, 0⟩] = .ok ⟨.int (x0 : Int), 0⟩ := by rw [hx0]; exact ixL (i := 0) (by decide) rfl
      have hbest : ∀ p ∈ left, c__law_best [⟨iD (rk R p), 0⟩, ⟨.lst (nL left), 1⟩] = .ok (⟨.int (blN R left p : Nat), 0⟩, [⟨iD (rk R p), 0⟩, ⟨.lst (nL left), 1⟩]) := fun p hp => law_best_ok hr hn (hlt p hp) hlt hne
      have hrk : ∀ p ∈ left, fIx [⟨RD R, 0⟩, ⟨.int (p : Int), 0⟩] = .ok ⟨iD (rk R p), 0⟩ := fun p hp => ixR (by have := hlt p hp; omega)
      simp (maxSteps := 2000000) -implicitDefEqProofs [-List.getD_eq_getElem?_getD, -own_cons, own_consB, ixT0, ixT1, ixT2, ixT3, ixT4, step1, b__law_rings_7, hemp, eh, lenR, hR, rgD_nat']
      refine ⟨by omega, ?_⟩
      refine Ret_range n [6] (fun (s : Nat) ρ => ρ.set 5 (some ⟨.int (s : Int), 0⟩)) (fun i s => s = itF (blN R left) i x0) x0 rfl rfl rfl (fun i s j1 hi1 hI1 => ?_) fun h j1 hI1 => ?_
      · have hs : s ∈ left := by rw [hI1]; exact it_mem hbl hx0m i
        have e2 : itF (blN R left) (i + 1) x0 = blN R left s := by rw [hI1]; rfl
        simp (maxSteps := 2000000) -implicitDefEqProofs [-List.getD_eq_getElem?_getD, -own_cons, own_consB, ixT0, ixT1, ixT2, ixT3, ixT4, step1, b__law_rings_2, hrk s hs, hbest s hs, e2]
      · have hh : h ∈ left := by rw [hI1]; exact it_mem hbl hx0m n
        have hon : OnR (blN R left) left.length h := by rw [hI1]; exact it_onr hbl hx0m hll
        clear hI1
        have e10 : D.lst [D.int (h : Int)] = .lst (nL (ringL (blN R left) h 0)) := rfl
        simp (maxSteps := 2000000) -implicitDefEqProofs [-List.getD_eq_getElem?_getD, -own_cons, own_consB, ixT0, ixT1, ixT2, ixT3, ixT4, e10, lenR, hR, rgD_nat']
        refine ⟨by omega, ?_⟩
        refine Ret_range n [6, 8] (fun (s : Nat) ρ => ρ.set 7 (some ⟨.lst (nL (ringL (blN R left) h s)), 1⟩)) (fun i r => (ringL (blN R left) h r).Nodup ∧ (blN R left (itF (blN R left) r h) ∈ ringL (blN R left) h r ∨ r = i)) 0 rfl rfl ⟨by unfold ringL; simp, .inr rfl⟩ (fun i r j2 hi2 hI2 => ?_) fun r j2 hI2 => ?_
        · obtain ⟨i1, i2⟩ := hI2
          have hlm : itF (blN R left) r h ∈ left := it_mem hbl hh r
          have hrl : (ringL (blN R left) h r).length ≤ n := left_len i1 fun p hp => by
            obtain ⟨a, _, rfl⟩ := mem_ring.mp hp
            exact hlt _ (it_mem hbl hh a)
          obtain ⟨w2, ew⟩ := ring_last (f := blN R left) (h := h) r
          have eix : fIx [⟨.lst (nL (ringL (blN R left) h r)), 1⟩, ⟨.int (-1), 0⟩] = .ok ⟨.int (itF (blN R left) r h : Nat), 0⟩ := by
            rw [ew]
            have : nL (w2 ++ [itF (blN R left) r h]) = nL w2 ++ [D.int (itF (blN R left) r h : Nat)] := by unfold nL; rw [List.map_append]; rfl
            rw [this]
            exact ix_last3 (by decide)
          have e5 : fIn true [⟨.int (blN R left (itF (blN R left) r h) : Nat), 0⟩, ⟨.lst (nL (ringL (blN R left) h r)), 1⟩] = .ok ⟨.bl (true ^^ decide (blN R left (itF (blN R left) r h) ∈ ringL (blN R left) h r)), 0⟩ := f_inNL
          have e6 : ringL (blN R left) h (r + 1) = ringL (blN R left) h r ++ [blN R left (itF (blN R left) r h)] := ring_snoc
          have e7 : nL (ringL (blN R left) h (r + 1)) = nL (ringL (blN R left) h r) ++ [D.int (blN R left (itF (blN R left) r h) : Nat)] := by rw [e6]; unfold nL; rw [List.map_append]; rfl
          by_cases hc : blN R left (itF (blN R left) r h) ∈ ringL (blN R left) h r
          · rw [decide_eq_true hc] at e5
            simp (maxSteps := 2000000) -implicitDefEqProofs [-List.getD_eq_getElem?_getD, -own_cons, own_consB, ixT0, ixT1, ixT2, ixT3, ixT4, step1, b__law_rings_3, eix, hrk _ hlm, hbest _ hlm, e5]
            exact ⟨r, rfl, i1, .inl hc⟩
          · rw [decide_eq_false hc] at e5
            simp (maxSteps := 2000000) -implicitDefEqProofs [-List.getD_eq_getElem?_getD, -own_cons, own_consB, ixT0, ixT1, ixT2, ixT3, ixT4, step1, b__law_rings_3, eix, hrk _ hlm, hbest _ hlm, e5]
            refine ⟨by omega, r + 1, e7.symm, ?_, .inr ?_⟩
            · rw [e6]
              exact List.nodup_append.mpr ⟨i1, by simp, fun a ha b hb => by rw [List.mem_singleton.mp hb]; exact fun e => hc (by rw [← e]; exact ha)⟩
            · rcases i2 with z | z
              · exact absurd z hc
              · omega
        · obtain ⟨i1, i2⟩ := hI2
          have hrl := left_len i1 fun p hp => by
            obtain ⟨a, _, rfl⟩ := mem_ring.mp hp
            exact hlt _ (it_mem hbl hh a)
          have hlen1 : (ringL (blN R left) h r).length = r + 1 := by unfold ringL; rw [List.length_map, List.length_range]
          have hlast : blN R left (itF (blN R left) r h) ∈ ringL (blN R left) h r := by
            rcases i2 with z | z
            · exact z
            · omega
          have hAl : ∀ p ∈ ringL (blN R left) h r, p ∈ left := fun p hp => by
            obtain ⟨a, _, rfl⟩ := mem_ring.mp hp
            exact it_mem hbl hh a
          have hAc : ∀ p ∈ ringL (blN R left) h r, blN R left p ∈ ringL (blN R left) h r := fun p hp => by
            obtain ⟨a, ha, rfl⟩ := mem_ring.mp hp
            by_cases z : a = r
            · rw [z]; exact hlast
            · exact mem_ring.mpr ⟨a + 1, by omega, rfl⟩
          have hAo : ∀ p ∈ ringL (blN R left) h r, OnR (blN R left) left.length p := fun p hp => by
            obtain ⟨a, ha, rfl⟩ := mem_ring.mp hp
            exact onr_it hon a
          have hAh : h ∈ ringL (blN R left) h r := mem_ring.mpr ⟨0, Nat.zero_le _, rfl⟩
          generalize ringL (blN R left) h r = A at *
          simp (maxSteps := 2000000) -implicitDefEqProofs [-List.getD_eq_getElem?_getD, -own_cons, own_consB, ixT0, ixT1, ixT2, ixT3, ixT4]
          refine Ret_forZ A (fun (i : Nat) => D.int (i : Int)) [9] (fun (s : List Int) ρ => ρ.set 1 (some ⟨.lst (s.map D.int), 1⟩)) (fun done _ s => s.length = n ∧ ∀ p, p < n → gv s p = if p ∈ done then ((blN R left p : Nat) : Int) else gv g p) g rfl [9] (by simpa using hz9) rfl ⟨P.l, fun p _ => by simp⟩ (fun done x rest s j3 e hI3 hz3 => ?_) fun s j3 hI3 hz3 => ?_
          · obtain ⟨k1, k2⟩ := hI3
            have hx : x ∈ left := hAl x (by rw [e]; simp)
            have hxn := hlt x hx
            have e2 := setI (t := ((blN R left x : Nat) : Int)) (show x < s.length by omega)
            simp (maxSteps := 2000000) -implicitDefEqProofs [-List.getD_eq_getElem?_getD, -own_cons, own_consB, ixT0, ixT1, ixT2, ixT3, ixT4, step1, b__law_rings_4, hrk x hx, hbest x hx, e2]
            refine ⟨s.set x ((blN R left x : Nat) : Int), by rw [List.map_set], by rw [List.length_set]; exact k1, fun p hp => ?_⟩
            rw [gv_set]
            by_cases hxp : x = p
            · rw [if_pos ⟨hxp, by omega⟩, if_pos (.inr hxp.symm), hxp]
            · rw [if_neg (fun z => hxp z.1), k2 p hp]
              by_cases hpd : p ∈ done
              · rw [if_pos hpd, if_pos (.inl hpd)]
              · rw [if_neg hpd, if_neg (fun z => z.elim hpd fun z => hxp z.symm)]
          · obtain ⟨k1, k2⟩ := hI3
            have hz4 : ownB (j3 9) = true := hz3 9 (by simp)
            simp (maxSteps := 2000000) -implicitDefEqProofs [-List.getD_eq_getElem?_getD, -own_cons, own_consB, ixT0, ixT1, ixT2, ixT3, ixT4]
            refine ⟨⟨hz4, by omega⟩, ?_⟩
            refine Ret_compF left (fun (i : Nat) => D.int (i : Int)) (fun p => decide (p ∉ A)) (fun (i : Nat) => D.int (i : Int)) rfl (fun p hp => ?_) ?_
            · have e1 := f_inNL (i := p) (l := A) (k := 0) (k' := 1) (neg := true)
              by_cases hc : p ∈ A
              · rw [decide_eq_true hc] at e1
                simp (maxSteps := 2000000) -implicitDefEqProofs [-List.getD_eq_getElem?_getD, -own_cons, own_consB, ixT0, ixT1, ixT2, ixT3, ixT4, comp1, t__law_rings_5, e__law_rings_6, nL, e1, hc]
              · rw [decide_eq_false hc] at e1
                simp (maxSteps := 2000000) -implicitDefEqProofs [-List.getD_eq_getElem?_getD, -own_cons, own_consB, ixT0, ixT1, ixT2, ixT3, ixT4, comp1, t__law_rings_5, e__law_rings_6, nL, e1, hc]
            · have P2 := part_step (A := A) (g' := s) hr P (by omega) hAl hAc (fun p hp q hq e => onr_inj (hAo p hp) (hAo q hq) e) k1
                (fun p hp => by rw [k2 p (hlt p (hAl p hp)), if_pos hp]) (fun p hp hpA => by rw [k2 p hp, if_neg hpA])
              have hlen2 := filt_len hh hAh
              simp (maxSteps := 2000000) -implicitDefEqProofs [-List.getD_eq_getElem?_getD, -own_cons, own_consB, ixT0, ixT1, ixT2, ixT3, ixT4]
              refine ⟨s, left.filter fun p => decide (p ∉ A), ⟨rfl, ?_⟩, ⟨⟨_, P2⟩, by omega⟩, hz4⟩
              simp [nL]
  · obtain ⟨g, left⟩ := s
    obtain ⟨⟨T, P⟩, hlen⟩ := hI
    dsimp only at P hlen
    have : left = [] := List.length_eq_zero_iff.mp (by omega)
    subst this
    simp (maxSteps := 2000000) -implicitDefEqProofs [-List.getD_eq_getElem?_getD, -own_cons, own_consB, ixT0, ixT1, ixT2, ixT3, ixT4]
    exact kk g T (part_end P)
end
end S

namespace S
open Z PySem PySem.Spec PyProof.Rows L2
/-! W77: trades: arrangements, groups. -/
def arrS (ts r : List Nat) : List (List Nat) := (ts.filter fun t => decide (t ∉ r)).map fun t => r ++ [t]
def arrN (ts : List Nat) : Nat → List (List Nat)
  | 0 => [[]]
  | k + 1 => (arrN ts k).flatMap (arrS ts)
section
variable {l : List D} {n k k' : Nat} {R : List (List Int)} {ts r : List Nat}
theorem mem_arrN : ∀ {k : Nat} {r : List Nat}, r ∈ arrN ts k ↔ r.length = k ∧ r.Nodup ∧ ∀ x ∈ r, x ∈ ts
  | 0, r => by
    unfold arrN
    rw [List.mem_singleton]
    constructor
    · rintro rfl
      exact ⟨rfl, List.nodup_nil, by simp⟩
    · exact fun h => List.length_eq_zero_iff.mp h.1
  | k + 1, r => by
    show r ∈ (arrN ts k).flatMap (arrS ts) ↔ _
    rw [List.mem_flatMap]
    constructor
    · rintro ⟨q, hq, hr⟩
      obtain ⟨q1, q2, q3⟩ := mem_arrN.mp hq
      obtain ⟨t, ht, rfl⟩ := List.mem_map.mp hr
      obtain ⟨t1, t2⟩ := List.mem_filter.mp ht
      have t2 : t ∉ q := of_decide_eq_true t2
      refine ⟨by simp [q1], List.nodup_append.mpr ⟨q2, by simp, fun a ha b hb => by rw [List.mem_singleton.mp hb]; exact fun e => t2 (by rw [← e]; exact ha)⟩, fun x hx => ?_⟩
      rcases List.mem_append.mp hx with hx | hx
      · exact q3 x hx
      · rw [List.mem_singleton.mp hx]; exact t1
    · rintro ⟨h1, h2, h3⟩
      have hne : r ≠ [] := fun e => by rw [e] at h1; cases h1
      have e := (List.dropLast_concat_getLast hne).symm
      generalize r.dropLast = q at e
      generalize r.getLast hne = t at e
      subst e
      obtain ⟨n1, n2, n3⟩ := List.nodup_append.mp h2
      refine ⟨q, mem_arrN.mpr ⟨by simpa using h1, n1, fun x hx => h3 x (List.mem_append_left _ hx)⟩, List.mem_map.mpr ⟨t, List.mem_filter.mpr ⟨h3 t (by simp), decide_eq_true fun z => n3 t z t (by simp) rfl⟩, rfl⟩⟩
theorem arrS_len : (arrS ts r).length ≤ ts.length := by
  unfold arrS
  rw [List.length_map]
  exact List.length_filter_le _ _
theorem arrN_len (h : ts.length ≤ 4) : ∀ k, (arrN ts k).length ≤ 4 ^ k
  | 0 => Nat.le_refl _
  | k + 1 => by
    have h1 := flat_len (l := arrN ts k) (f := arrS ts) (c := 4) fun x _ => Nat.le_trans arrS_len h
    have ih := arrN_len h k
    show ((arrN ts k).flatMap (arrS ts)).length ≤ _
    rw [Nat.pow_succ]
    exact Nat.le_trans h1 (Nat.mul_le_mul_right 4 ih)
theorem arr256 (h : ts.length ≤ 4) (hk : k ≤ 4) : (arrN ts k).length ≤ 256 := Nat.le_trans (arrN_len h k) (Nat.le_trans (Nat.pow_le_pow_right (by decide) hk) (by decide))
theorem law_arranged_ok (h : ts.length ≤ 4) : c__law_arranged [⟨.lst (nL ts), 1⟩] = .ok (⟨.lst ((arrN ts ts.length).map nD), 1⟩, [⟨.lst (nL ts), 1⟩]) := by
  have e00 : D.lst [D.tup []] = .lst ((arrN ts 0).map nD) := rfl
  have elen : fLen [⟨.lst (nL ts), 1⟩] = .ok ⟨.int (ts.length : Nat), 0⟩ := by
    show Z.R.ok (Cell.fz (.int ((nL ts).length : Nat))) = _
    unfold nL
    rw [List.length_map]
    rfl
  refine Ret.eq ?_
  simp (maxSteps := 2000000) -implicitDefEqProofs [-List.getD_eq_getElem?_getD, -own_cons, own_consB, ixT0, ixT1, ixT2, ixT3, ixT4, c__law_arranged, m__law_arranged, e00, elen, rgD_nat']
  refine ⟨by omega, ?_⟩
  refine Ret_range ts.length [2, 3, 4] (fun (s : List (List Nat)) ρ => ρ.set 1 (some ⟨.lst (s.map nD), 1⟩)) (fun i s => s = arrN ts i) (arrN ts 0) rfl rfl rfl (fun i s j hi hI => ?_) fun s j hI => ?_
  · subst hI
    have hs := arr256 (ts := ts) (k := i) h (by omega)
    have hlen : ∀ g ∈ arrN ts i, g.length = i := fun g hg => (mem_arrN.mp hg).1
    have hs2 : arrN ts (i + 1) = (arrN ts i).flatMap (arrS ts) := rfl
    generalize arrN ts i = rows at *
    simp (maxSteps := 2000000) -implicitDefEqProofs [-List.getD_eq_getElem?_getD, -own_cons, own_consB, ixT0, ixT1, ixT2, ixT3, ixT4, step1, b__law_arranged_4]
    refine Ret_for rows nD [4] (fun (s : List (List Nat)) ρ => ρ.set 3 (some ⟨.lst (s.map nD), 1⟩)) (fun done _ s => s = done.flatMap (arrS ts)) [] rfl rfl rfl (fun done r rest s j2 e hI => ?_) fun s j2 hI => ?_
    · have hr := hlen r (by rw [e]; simp)
      have hsl : s.length ≤ 5000 := by
        have h1 := flat_len (l := done) (f := arrS ts) (c := 4) fun x _ => Nat.le_trans arrS_len h
        have h2 : done.length ≤ rows.length := by rw [e, List.length_append]; omega
        rw [hI]
        omega
      have hxl := arrS_len (ts := ts) (r := r)
      have hfin : (done ++ [r]).flatMap (arrS ts) = s ++ arrS ts r := by rw [hI, List.flatMap_append]; simp
      simp (maxSteps := 2000000) -implicitDefEqProofs [-List.getD_eq_getElem?_getD, -own_cons, own_consB, ixT0, ixT1, ixT2, ixT3, ixT4, step1, b__law_arranged_3]
      refine ⟨by omega, ?_⟩
      refine Ret_compF ts (fun (i : Nat) => D.int (i : Int)) (fun t => decide (t ∉ r)) (fun t => nD (r ++ [t])) rfl (fun t ht => ?_) ?_
      · have e1 : fIn true [⟨.int (t : Int), 0⟩, ⟨nD r, 0⟩] = .ok ⟨.bl (true ^^ decide (t ∈ r)), 0⟩ := f_inN
        have ead : fAdd [⟨nD r, 0⟩, ⟨.tup [.int (t : Int)], 0⟩] = .ok ⟨nD (r ++ [t]), 0⟩ := by
          have := f_addT (l := nL r) (m := [.int (t : Int)]) (k := 0) (k' := 0) (by unfold nL; rw [List.length_map]; omega) (by show 1 ≤ _; decide)
          have e : nL r ++ [.int (t : Int)] = nL (r ++ [t]) := by unfold nL; rw [List.map_append]; rfl
          rw [e] at this
          exact this
        by_cases hmr : t ∈ r
        · rw [decide_eq_true hmr] at e1
          simp (maxSteps := 2000000) -implicitDefEqProofs [-List.getD_eq_getElem?_getD, -own_cons, own_consB, ixT0, ixT1, ixT2, ixT3, ixT4, comp1, t__law_arranged_1, e__law_arranged_2, e1, hmr]
        · rw [decide_eq_false hmr] at e1
          simp (maxSteps := 2000000) -implicitDefEqProofs [-List.getD_eq_getElem?_getD, -own_cons, own_consB, ixT0, ixT1, ixT2, ixT3, ixT4, comp1, t__law_arranged_1, e__law_arranged_2, e1, hmr, ead]
      · have e2 : (ts.filter fun t => decide (t ∉ r)).map (fun t => nD (r ++ [t])) = (arrS ts r).map nD := by unfold arrS; rw [List.map_map]; rfl
        have e3 := f_ext (l := s.map nD) (m := (arrS ts r).map nD) (by rw [List.length_map]; omega) (by rw [List.length_map]; omega)
        rw [e2]
        generalize arrS ts r = ex at *
        simp (maxSteps := 2000000) -implicitDefEqProofs [-List.getD_eq_getElem?_getD, -own_cons, own_consB, ixT0, ixT1, ixT2, ixT3, ixT4, e3]
        rw [hI]
    · subst hI
      rw [← hs2]
      simp (maxSteps := 2000000) -implicitDefEqProofs [-List.getD_eq_getElem?_getD, -own_cons, own_consB, ixT0, ixT1, ixT2, ixT3, ixT4]
  · subst hI
    simp (maxSteps := 2000000) -implicitDefEqProofs [-List.getD_eq_getElem?_getD, -own_cons, own_consB, ixT0, ixT1, ixT2, ixT3, ixT4]
def bitsN (n mask : Nat) : List Nat := (List.range n).filter fun p => mask.testBit p
abbrev gpD (x : List Nat × List Nat) : D := .tup [.lst (nL x.1), nD x.2]
def gpsOf (n mask : Nat) : List (List Nat × List Nat) := (arrN (bitsN n mask) (bitsN n mask).length).map fun r => (bitsN n mask, r)
def groupsN (n : Nat) : List (List Nat × List Nat) := (List.range (2 ^ n - 1)).flatMap fun i => gpsOf n (i + 1)
theorem bits_len {mask : Nat} : (bitsN n mask).length ≤ n := by
  have := List.length_filter_le (fun p => mask.testBit p) (List.range n)
  rw [List.length_range] at this
  exact this
theorem gps_len {mask : Nat} (hn : n ≤ 4) : (gpsOf n mask).length ≤ 256 := by
  unfold gpsOf
  rw [List.length_map]
  have := bits_len (n := n) (mask := mask)
  exact arr256 (by omega) (by omega)
theorem law_groups_ok (hn : n ≤ 4) : c__law_groups [⟨.int (n : Int), 0⟩] = .ok (⟨.lst ((groupsN n).map gpD), 1⟩, [⟨.int (n : Int), 0⟩]) := by
  have esh : fShl [⟨.int 1, 0⟩, ⟨.int (n : Int), 0⟩] = .ok ⟨.int ((2 ^ n : Nat) : Int), 0⟩ := by
    rw [p_shl (by
      unfold Z.cpow
      rw [decide_eq_true (show (0 : Int) ≤ (n : Int) by omega), decide_eq_true (show (n : Int) ≤ 1000000 by omega)]
      rfl)]
    simp
  have hM : 2 ^ n ≤ 16 := Nat.le_trans (Nat.pow_le_pow_right (by decide) hn) (by decide)
  have hM1 : 1 ≤ 2 ^ n := Nat.one_le_two_pow
  have hG : groupsN n = (List.range (2 ^ n - 1)).flatMap fun i => gpsOf n (i + 1) := rfl
  generalize (2 ^ n : Nat) = M at *
  have erg : rgD 1 (M : Int) = (List.range (M - 1)).map fun (i : Nat) => D.int (1 + (i : Int)) := by
    unfold rgD
    rw [show ((M : Int) - 1).toNat = M - 1 by omega]
  have erb : rgB 1 (M : Int) = true := by
    unfold rgB
    simp
    omega
  refine Ret.eq ?_
  simp (maxSteps := 2000000) -implicitDefEqProofs [-List.getD_eq_getElem?_getD, -own_cons, own_consB, ixT0, ixT1, ixT2, ixT3, ixT4, c__law_groups, m__law_groups, esh, erg, erb]
  refine Ret_for (List.range (M - 1)) (fun (i : Nat) => D.int (1 + (i : Int))) [2, 3] (fun (s : List (List Nat × List Nat)) ρ => ρ.set 1 (some ⟨.lst (s.map gpD), 1⟩)) (fun done _ s => s = done.flatMap fun i => gpsOf n (i + 1)) [] rfl rfl rfl (fun done i rest s j e hI => ?_) fun s j hI => ?_
  · obtain ⟨mk, hmk⟩ : ∃ mk, mk = i + 1 := ⟨_, rfl⟩
    have em : (1 : Int) + (i : Int) = (mk : Int) := by omega
    have hbl := bits_len (n := n) (mask := mk)
    have hgl := gps_len (n := n) (mask := mk) hn
    have hil : i < M - 1 := List.mem_range.mp (by rw [e]; simp)
    have hsl : s.length ≤ 5000 := by
      have h1 := flat_len (l := done) (f := fun i => gpsOf n (i + 1)) (c := 256) fun x _ => gps_len hn
      have h2 : done.length ≤ 15 := by
        have := congrArg List.length e
        rw [List.length_range, List.length_append, List.length_cons] at this
        omega
      rw [hI]
      omega
    have hfin : (done ++ [i]).flatMap (fun i => gpsOf n (i + 1)) = s ++ gpsOf n mk := by rw [hI, List.flatMap_append, hmk]; simp
    have hgp : (gpsOf n mk).map gpD = ((arrN (bitsN n mk) (bitsN n mk).length).map fun r => gpD (bitsN n mk, r)) := by unfold gpsOf; rw [List.map_map]; rfl
    have hal := arr256 (ts := bitsN n mk) (k := (bitsN n mk).length) (by omega) (by omega)
    have ear := law_arranged_ok (ts := bitsN n mk) (by omega)
    simp (maxSteps := 2000000) -implicitDefEqProofs [-List.getD_eq_getElem?_getD, -own_cons, own_consB, ixT0, ixT1, ixT2, ixT3, ixT4, step1, b__law_groups_4, rgD_nat']
    refine ⟨by omega, by omega, ?_⟩
    refine Ret_compF (List.range n) (fun (i : Nat) => D.int (i : Int)) (fun p => mk.testBit p) (fun (i : Nat) => D.int (i : Int)) rfl (fun p hp => ?_) ?_
    · have esr : fShr [⟨.int (1 + (i : Int)), 0⟩, ⟨.int (p : Int), 0⟩] = .ok ⟨.int ((mk : Int) / 2 ^ p), 0⟩ := by
        rw [em, p_shr (by omega), Int.toNat_natCast]; rfl
      have eb := bit1 (m := mk) (k := p)
      have htb : mk.testBit p = decide (mk / 2 ^ p % 2 = 1) := Nat.testBit_eq_decide_div_mod_eq
      have t1 : truth (D.int 1) = some true := rfl
      have t0 : truth (D.int 0) = some false := rfl
      have hm2 : mk / 2 ^ p % 2 = 0 ∨ mk / 2 ^ p % 2 = 1 := by omega
      rcases hm2 with hm2 | hm2
      · rw [hm2] at eb htb
        have htb : mk.testBit p = false := htb
        rw [show (((0 : Nat)) : Int) = 0 from rfl] at eb
        simp (maxSteps := 2000000) -implicitDefEqProofs [-List.getD_eq_getElem?_getD, -own_cons, own_consB, ixT0, ixT1, ixT2, ixT3, ixT4, comp1, t__law_groups_1, e__law_groups_2, esr, eb, t0, htb]
      · rw [hm2] at eb htb
        have htb : mk.testBit p = true := htb
        rw [show (((1 : Nat)) : Int) = 1 from rfl] at eb
        simp (maxSteps := 2000000) -implicitDefEqProofs [-List.getD_eq_getElem?_getD, -own_cons, own_consB, ixT0, ixT1, ixT2, ixT3, ixT4, comp1, t__law_groups_1, e__law_groups_2, esr, eb, t1, htb]
    · have e2 : ((List.range n).filter fun p => mk.testBit p).map (fun (i : Nat) => D.int (i : Int)) = nL (bitsN n mk) := rfl
      rw [e2]
      generalize bitsN n mk = mem at *
      generalize hgps : gpsOf n mk = gps at *
      simp (maxSteps := 2000000) -implicitDefEqProofs [-List.getD_eq_getElem?_getD, -own_cons, own_consB, ixT0, ixT1, ixT2, ixT3, ixT4, ear]
      refine ⟨by omega, ?_⟩
      refine Ret_compS (arrN mem mem.length) nD (fun r => gpD (mem, r)) (fun (c : Nat) ρ => ρ.set 3 (some ⟨.lst (nL mem), c⟩)) (fun done _ c acc => c ≤ 1 ∧ acc = done) 1 rfl rfl ⟨by decide, rfl⟩ (fun done x rest c acc e hI => ?_) fun c acc hI => ?_
      · obtain ⟨i1, i2⟩ := hI
        have hc : c = 0 ∨ c = 1 := by omega
        rcases hc with rfl | rfl
        · simp (maxSteps := 2000000) -implicitDefEqProofs [-List.getD_eq_getElem?_getD, -own_cons, own_consB, ixT0, ixT1, ixT2, ixT3, ixT4, comp1, e__law_groups_3]
          exact i2
        · simp (maxSteps := 2000000) -implicitDefEqProofs [-List.getD_eq_getElem?_getD, -own_cons, own_consB, ixT0, ixT1, ixT2, ixT3, ixT4, comp1, e__law_groups_3]
          exact i2
      · obtain ⟨i1, i2⟩ := hI
        subst i2
        rw [← hgp]
        have e3 := f_ext (l := s.map gpD) (m := gps.map gpD) (by rw [List.length_map]; omega) (by rw [List.length_map]; omega)
        simp (maxSteps := 2000000) -implicitDefEqProofs [-List.getD_eq_getElem?_getD, -own_cons, own_consB, ixT0, ixT1, ixT2, ixT3, ixT4, e3]
        rw [hI, ← hgps, hmk]
  · subst hI
    rw [← hG]
    simp (maxSteps := 2000000) -implicitDefEqProofs [-List.getD_eq_getElem?_getD, -own_cons, own_consB, ixT0, ixT1, ixT2, ixT3, ixT4]
end
end S

namespace S
open Z PySem PySem.Spec PyProof.Rows L2
/-! W78: trades: who betters himself. -/
section
variable {l : List D} {n k k' : Nat} {R : List (List Int)} {g told : List Int} {T : Nat → Nat} {mem row r : List Nat}
theorem law_listings17_r (h : DSl l) (hn : n ≤ 4) {Q : Cell × List Cell → Prop} (kk : ∀ (R : List (List Int)) (l' : List D), DSl l' → RkOk n n R → Q (⟨RD R, 0⟩, [⟨.lst l', 1⟩, ⟨.int (n : Int), 0⟩])) :
    Ret (c__law_listings_k17 [⟨.lst l, 1⟩, ⟨.int (n : Int), 0⟩]) Q := by
  have fin : ∀ (Ls : List (List Nat)) (l' : List D), DSl l' → Ls.length = n → (∀ L ∈ Ls, IsPm n L) → Q (⟨.tup (Ls.map nD), 0⟩, [⟨.lst l', 1⟩, ⟨.int (n : Int), 0⟩]) := fun Ls l' h1 h2 h3 => by
    have := kk (Ls.map ups) l' h1 (rk_of h2 h3)
    have e : RD (Ls.map ups) = .tup (Ls.map nD) := by
      unfold RD
      rw [List.map_map]
      exact congrArg D.tup (List.map_congr_left fun L _ => ups_d.symm)
    rw [e] at this
    exact this
  simp (maxSteps := 2000000) -implicitDefEqProofs [-List.getD_eq_getElem?_getD, -own_cons, own_consB, ixT0, ixT1, ixT2, ixT3, ixT4, c__law_listings_k17, m__law_listings_k17]
  refine Ret_draw h (by decide) (by decide) fun w l1 h1 hw => ?_
  by_cases hc : (w : Int) = 1
  · simp (maxSteps := 2000000) -implicitDefEqProofs [-List.getD_eq_getElem?_getD, -own_cons, own_consB, ixT0, ixT1, ixT2, ixT3, ixT4, hc]
    refine law_listing_r h1 (by omega) fun A l2 h2 hA => ?_
    simp (maxSteps := 2000000) -implicitDefEqProofs [-List.getD_eq_getElem?_getD, -own_cons, own_consB, ixT0, ixT1, ixT2, ixT3, ixT4]
    refine law_listing_r h2 (by omega) fun B l3 h3 hB => ?_
    have e2 : D.lst [nD A, nD B] = .lst ([A, B].map nD) := rfl
    simp (maxSteps := 2000000) -implicitDefEqProofs [-List.getD_eq_getElem?_getD, -own_cons, own_consB, ixT0, ixT1, ixT2, ixT3, ixT4, e2, rgD_nat']
    refine ⟨by omega, by omega, ?_⟩
    refine Ret_compS (List.range n) (fun (i : Nat) => D.int (i : Int)) nD (fun (s : List D) ρ => ρ.set 0 (some ⟨.lst s, 1⟩)) (fun done _ s acc => DSl s ∧ acc.length = done.length ∧ ∀ L ∈ acc, IsPm n L) l3 rfl rfl ⟨h3, rfl, by simp⟩ (fun done x rest s acc e hI => ?_) fun s acc hI => ?_
    · obtain ⟨g1, g2, g3⟩ := hI
      simp (maxSteps := 2000000) -implicitDefEqProofs [-List.getD_eq_getElem?_getD, -own_cons, own_consB, ixT0, ixT1, ixT2, ixT3, ixT4, comp1, e__law_listings_k17_1, e2]
      refine pick_map (xs := [A, B]) (f := nD) (by decide) g1 (by show 0 < 2; decide) (by show 2 ≤ 5000; decide) fun X l4 hX h4 => ?_
      have hXm : IsPm n X := by
        rcases List.mem_cons.mp hX with rfl | hX
        · exact hA
        · rw [List.mem_singleton.mp hX]; exact hB
      simp (maxSteps := 2000000) -implicitDefEqProofs [-List.getD_eq_getElem?_getD, -own_cons, own_consB, ixT0, ixT1, ixT2, ixT3, ixT4]
      exact ⟨X, rfl, h4, g2, fun L hL => hL.elim (g3 L) fun e => by rw [e]; exact hXm⟩
    · obtain ⟨g1, g2, g3⟩ := hI
      rw [List.length_range] at g2
      simp (maxSteps := 2000000) -implicitDefEqProofs [-List.getD_eq_getElem?_getD, -own_cons, own_consB, ixT0, ixT1, ixT2, ixT3, ixT4]
      exact fin acc s g1 g2 g3
  · simp (maxSteps := 2000000) -implicitDefEqProofs [-List.getD_eq_getElem?_getD, -own_cons, own_consB, ixT0, ixT1, ixT2, ixT3, ixT4, hc, rgD_nat']
    refine ⟨by omega, by omega, ?_⟩
    refine Ret_compS (List.range n) (fun (i : Nat) => D.int (i : Int)) nD (fun (s : List D) ρ => ρ.set 0 (some ⟨.lst s, 1⟩)) (fun done _ s acc => DSl s ∧ acc.length = done.length ∧ ∀ L ∈ acc, IsPm n L) l1 rfl rfl ⟨h1, rfl, by simp⟩ (fun done x rest s acc e hI => ?_) fun s acc hI => ?_
    · obtain ⟨g1, g2, g3⟩ := hI
      simp (maxSteps := 2000000) -implicitDefEqProofs [-List.getD_eq_getElem?_getD, -own_cons, own_consB, ixT0, ixT1, ixT2, ixT3, ixT4, comp1, e__law_listings_k17_2]
      refine law_listing_r g1 (by omega) fun X l4 h4 hXm => ?_
      simp (maxSteps := 2000000) -implicitDefEqProofs [-List.getD_eq_getElem?_getD, -own_cons, own_consB, ixT0, ixT1, ixT2, ixT3, ixT4]
      exact ⟨X, rfl, h4, g2, fun L hL => hL.elim (g3 L) fun e => by rw [e]; exact hXm⟩
    · obtain ⟨g1, g2, g3⟩ := hI
      rw [List.length_range] at g2
      simp (maxSteps := 2000000) -implicitDefEqProofs [-List.getD_eq_getElem?_getD, -own_cons, own_consB, ixT0, ixT1, ixT2, ixT3, ixT4]
      exact fin acc s g1 g2 g3
/-! ### groups -/
structure GpOk (n : Nat) (x : List Nat × List Nat) : Prop where
  nd : x.1.Nodup
  lt : ∀ p ∈ x.1, p < n
  ne : x.1 ≠ []
  len : x.2.length = x.1.length
  nd2 : x.2.Nodup
  sub : ∀ p ∈ x.2, p ∈ x.1
theorem mem_bits {mask p : Nat} : p ∈ bitsN n mask ↔ p < n ∧ mask.testBit p = true := by
  unfold bitsN
  rw [List.mem_filter, List.mem_range]
theorem groups_ok : ∀ x ∈ groupsN n, GpOk n x := fun x hx => by
  obtain ⟨i, hi, hx⟩ := List.mem_flatMap.mp hx
  have hi := List.mem_range.mp hi
  obtain ⟨r, hr, rfl⟩ := List.mem_map.mp hx
  obtain ⟨r1, r2, r3⟩ := mem_arrN.mp hr
  refine ⟨List.nodup_range.filter _, fun p hp => (mem_bits.mp hp).1, fun e => ?_, r1, r2, r3⟩
  have e : bitsN n (i + 1) = [] := e
  have hz : i + 1 = 0 := by
    refine Nat.eq_of_testBit_eq fun p => ?_
    rw [Nat.zero_testBit]
    by_cases hp : p < n
    · cases z : (i + 1).testBit p with
      | false => rfl
      | true =>
        have : p ∈ bitsN n (i + 1) := mem_bits.mpr ⟨hp, z⟩
        rw [e] at this
        cases this
    · exact Nat.testBit_lt_two_pow (Nat.lt_of_lt_of_le (show i + 1 < 2 ^ n by omega) (Nat.pow_le_pow_right (by decide) (by omega)))
  omega
/-- every set of persons with an arrangement is there -/
theorem groups_all {P : Nat → Bool} (h0 : ∃ p, p < n ∧ P p = true) {row : List Nat} (h1 : row.length = ((List.range n).filter P).length) (h2 : row.Nodup) (h3 : ∀ p ∈ row, p ∈ (List.range n).filter P) : ((List.range n).filter P, row) ∈ groupsN n := by
  have hb : ∀ p, p < n → (msk (List.range n) P).testBit p = P p := fun p hp => by
    unfold msk
    rw [mkB_test, List.getD_eq_getElem?_getD, List.getElem?_map, List.getElem?_range hp]
    rfl
  have hbits : bitsN n (msk (List.range n) P) = (List.range n).filter P := by
    unfold bitsN
    exact List.filter_congr fun p hp => hb p (List.mem_range.mp hp)
  have hall := msk_all (g := List.range n)
  rw [List.length_range] at hall
  have hsum := msk_not (g := List.range n) (f := P)
  have hpos : msk (List.range n) P ≠ 0 := fun e => by
    obtain ⟨p, hp, hP⟩ := h0
    have := hb p hp
    rw [e, Nat.zero_testBit, hP] at this
    cases this
  generalize msk (List.range n) P = M at *
  refine List.mem_flatMap.mpr ⟨M - 1, List.mem_range.mpr (by omega), ?_⟩
  rw [show M - 1 + 1 = M by omega]
  unfold gpsOf
  rw [hbits]
  exact List.mem_map.mpr ⟨row, mem_arrN.mpr ⟨h1, h2, h3⟩, rfl⟩
def gainL (R : List (List Int)) (g : List Int) (x : List Nat × List Nat) : List Int := (List.range x.2.length).map fun k => (spot R (x.1.getD k 0) (gv g (x.1.getD k 0)) : Int) - (spot R (x.1.getD k 0) ((x.2.getD k 0 : Nat) : Int) : Int)
def betG (R : List (List Int)) (g : List Int) (x : List Nat × List Nat) : Bool := decide (0 ≤ mnL (gainL R g x)) && decide (0 < mxL (gainL R g x))
theorem mem_gain {x : List Nat × List Nat} {z : Int} : z ∈ gainL R g x ↔ ∃ k, k < x.2.length ∧ (spot R (x.1.getD k 0) (gv g (x.1.getD k 0)) : Int) - (spot R (x.1.getD k 0) ((x.2.getD k 0 : Nat) : Int) : Int) = z := by
  unfold gainL
  rw [List.mem_map]
  exact ⟨fun ⟨k, hk, e⟩ => ⟨k, List.mem_range.mp hk, e⟩, fun ⟨k, hk, e⟩ => ⟨k, List.mem_range.mpr hk, e⟩⟩
theorem bet_none (hr : RkOk n n R) (h : Trade n R told T) {x : List Nat × List Nat} (hx : GpOk n x) : betG R told x = false := by
  have hne : gainL R told x ≠ [] := fun e => by
    have := congrArg List.length e
    unfold gainL at this
    rw [List.length_map, List.length_range] at this
    have h1 := List.length_pos_iff.mpr hx.ne
    rw [hx.len, List.length_nil] at this
    omega
  cases hb : betG R told x with
  | false => rfl
  | true =>
    exfalso
    obtain ⟨b1, b2⟩ := Bool.and_eq_true_iff.mp hb
    have b1 := of_decide_eq_true b1
    have b2 := of_decide_eq_true b2
    have hat : ∀ p ∈ x.1, x.1.idxOf p < x.2.length ∧ x.1.getD (x.1.idxOf p) 0 = p := fun p hp => by
      have h1 := List.idxOf_lt_length_iff.mpr hp
      exact ⟨by rw [hx.len]; exact h1, by rw [getD_of_lt h1]; exact List.getElem_idxOf h1⟩
    have hgd : ∀ k, k < x.2.length → x.2.getD k 0 ∈ x.2 := fun k hk => by rw [getD_of_lt hk]; exact List.getElem_mem _
    have key := trade_core (S := fun p => p ∈ x.1) (row := fun p => x.2.getD (x.1.idxOf p) 0) hr h hx.lt (fun p hp => hx.sub _ (hgd _ (hat p hp).1)) (fun p q hp hq e => by
      have e1 := (hat p hp).1
      have e2 := (hat q hq).1
      rw [getD_of_lt e1, getD_of_lt e2] at e
      have i1 := idx_get hx.nd2 e1
      have i2 := idx_get hx.nd2 e2
      rw [e] at i1
      exact idx_inj hp (i1.symm.trans i2)) (fun p hp => by
      have := mnL_le (mem_gain.mpr ⟨x.1.idxOf p, (hat p hp).1, rfl⟩ : _ ∈ gainL R told x)
      rw [(hat p hp).2] at this
      omega)
    obtain ⟨k, hk, e⟩ := mem_gain.mp (mxL_mem hne)
    have hk1 : k < x.1.length := by rw [← hx.len]; exact hk
    have hp : x.1.getD k 0 ∈ x.1 := by rw [getD_of_lt hk1]; exact List.getElem_mem _
    have hidx : x.1.idxOf (x.1.getD k 0) = k := by rw [getD_of_lt hk1]; exact idx_get hx.nd hk1
    have := key _ hp
    rw [hidx] at this
    rw [this] at e
    omega
theorem bet_some (hr : RkOk n n R) (h : Trade n R told T) (hl : g.length = n) (hb : ∀ p, p < n → 0 ≤ gv g p ∧ gv g p < n) (hi : ∀ p q, p < n → q < n → gv g p = gv g q → p = q) (hne : ∃ p, p < n ∧ gv g p ≠ gv told p) : ∃ x ∈ groupsN n, betG R g x = true := by
  obtain ⟨t, h1, p0, h2, h3, h4⟩ := trade_other hr h hl hb hi hne
  have hm : ∀ p, p ∈ (List.range n).filter (fun p => decide (T p = t)) ↔ p < n ∧ T p = t := fun p => by rw [List.mem_filter, List.mem_range, decide_eq_true_eq]
  refine ⟨((List.range n).filter fun p => decide (T p = t), ((List.range n).filter fun p => decide (T p = t)).map fun p => (gv told p).toNat), groups_all ⟨p0, h2, decide_eq_true h3⟩ (List.length_map ..) (nodup_map_on (List.nodup_range.filter _) fun a ha b hb e => h.injn ((hm a).mp ha).1 ((hm b).mp hb).1 e) (fun q hq => ?_), ?_⟩
  · obtain ⟨p, hp, rfl⟩ := List.mem_map.mp hq
    obtain ⟨a, b⟩ := (hm p).mp hp
    exact (hm _).mpr ⟨(h.gn a).1, by rw [h.lev p a]; exact b⟩
  · generalize hmem : (List.range n).filter (fun p => decide (T p = t)) = mem at *
    have hgk : ∀ k, k < mem.length → (mem.map fun p => (gv told p).toNat).getD k 0 = (gv told (mem.getD k 0)).toNat := fun k hk => by
      rw [getD_of_lt (by rw [List.length_map]; exact hk), List.getElem_map, getD_of_lt hk]
    have hval : ∀ k, k < mem.length → mem.getD k 0 < n ∧ T (mem.getD k 0) = t := fun k hk => (hm _).mp (by rw [getD_of_lt hk]; exact List.getElem_mem _)
    have hge : ∀ z ∈ gainL R g (mem, mem.map fun p => (gv told p).toNat), 0 ≤ z := fun z hz => by
      obtain ⟨k, hk, rfl⟩ := mem_gain.mp hz
      have hk : k < mem.length := by simpa using hk
      obtain ⟨a, b⟩ := hval k hk
      have := h1 _ a b
      dsimp only
      rw [hgk k hk, (h.gn a).2]
      omega
    have hp0 : p0 ∈ mem := (hm p0).mpr ⟨h2, h3⟩
    have hlt := List.idxOf_lt_length_iff.mpr hp0
    have hat : mem.getD (mem.idxOf p0) 0 = p0 := by rw [getD_of_lt hlt]; exact List.getElem_idxOf hlt
    have hin : (spot R p0 (gv g p0) : Int) - (spot R p0 (gv told p0) : Int) ∈ gainL R g (mem, mem.map fun p => (gv told p).toNat) := mem_gain.mpr ⟨mem.idxOf p0, by simpa using hlt, by
      dsimp only
      rw [hgk _ hlt, hat, (h.gn h2).2]⟩
    have hmn := hge _ (mnL_mem (l := gainL R g (mem, mem.map fun p => (gv told p).toNat)) (fun e => by rw [e] at hin; cases hin))
    have hmx := mxL_ge hin
    unfold betG
    rw [decide_eq_true hmn, decide_eq_true (show 0 < mxL (gainL R g (mem, mem.map fun p => (gv told p).toNat)) by omega)]
    rfl
end
end S

namespace S
open Z PySem PySem.Spec PyProof.Rows L2
abbrev spD (n : Nat) (R : List (List Int)) : D := .lst (R.map fun r => .lst ((List.range n).map fun (t : Nat) => D.int (r.idxOf (t : Int) : Nat)))
section
variable {l : List D} {n : Nat} {R : List (List Int)} {g h told : List Int} {T : Nat → Nat}
theorem iD_pl3 {k : Nat} : (iD g).pl (k + 1) = true := by
  show (D.tup (g.map D.int)).pl (k + 1) = true
  rw [D.pl, List.all_eq_true]
  intro d hd
  obtain ⟨z, _, rfl⟩ := List.mem_map.mp hd
  cases k <;> rfl
theorem iD_inj3 : iD g = iD h ↔ g = h := by
  constructor
  · intro e
    have e : D.tup (g.map D.int) = D.tup (h.map D.int) := e
    have e2 : g.map D.int = h.map D.int := by injection e
    exact (List.map_inj_right (fun a b e => by injection e)).mp e2
  · rintro rfl; rfl
theorem ne_iD3 {k k' : Nat} : fNe [⟨iD g, k⟩, ⟨iD h, k'⟩] = .ok ⟨.bl (!decide (g = h)), 0⟩ := by
  rw [f_neP iD_pl3 iD_pl3]
  simp only [iD_inj3]
theorem eq_iD3 {k k' : Nat} : fEq [⟨iD g, k⟩, ⟨iD h, k'⟩] = .ok ⟨.bl (decide (g = h)), 0⟩ := by
  rw [f_eqP iD_pl3 iD_pl3]
  simp only [iD_inj3]
theorem ext_gv3 (hg : g.length = n) (hh : h.length = n) (e : ∀ p, p < n → gv g p = gv h p) : g = h := by
  refine List.ext_getElem (hg.trans hh.symm) fun i h1 h2 => ?_
  have := e i (by omega)
  unfold gv at this
  rw [getD_of_lt h1, getD_of_lt h2] at this
  exact this
theorem bound_T (T : Nat → Nat) : ∀ n, ∃ B, ∀ p, p < n → T p < B
  | 0 => ⟨0, fun p h => absurd h (Nat.not_lt_zero _)⟩
  | n + 1 => by
    obtain ⟨B, hB⟩ := bound_T T n
    exact ⟨max B (T n + 1), fun p hp => by
      by_cases h : p < n
      · have := hB p h; omega
      · have : p = n := by omega
        rw [this]; omega⟩
theorem trade_eq (hr : RkOk n n R) {T' : Nat → Nat} (h1 : Trade n R g T) (h2 : Trade n R h T') : h = g := by
  obtain ⟨B, hB⟩ := bound_T T n
  exact ext_gv3 h2.l h1.l fun p hp => trade_uniq hr h1 h2 B (fun _ _ _ => rfl) p hp (hB p hp)
theorem ix_sp {p q : Nat} {k k' : Nat} (hR : R.length = n) (hk : k ≤ 1) (hp : p < n) (hq : q < n) : fIx [⟨spD n R, k⟩, ⟨.int (p : Int), k'⟩] = .ok ⟨.lst ((List.range n).map fun (t : Nat) => D.int ((rk R p).idxOf (t : Int) : Nat)), 0⟩ ∧
    fIx [⟨.lst ((List.range n).map fun (t : Nat) => D.int ((rk R p).idxOf (t : Int) : Nat)), 0⟩, ⟨.int (q : Int), k'⟩] = .ok ⟨.int (spot R p (q : Int) : Nat), 0⟩ := by
  constructor
  · refine ixL hk ?_
    rw [List.getElem?_map, List.getElem?_eq_getElem (by omega)]
    unfold rk
    rw [getD_of_lt (by omega)]
    rfl
  · refine ixL (by decide) ?_
    rw [List.getElem?_map, List.getElem?_range hq]
    rfl
theorem ix_nD {ks : List Nat} {i k k' : Nat} (h : i < ks.length) : fIx [⟨nD ks, k⟩, ⟨.int (i : Int), k'⟩] = .ok ⟨.int (ks.getD i 0 : Nat), 0⟩ := ixT (by show (nL ks)[i]? = _; unfold nL; rw [List.getElem?_map, List.getElem?_eq_getElem h, getD_of_lt h]; rfl)
theorem law_is_bettered_ok {G : List (List Nat × List Nat)} (hG : ∀ x ∈ G, GpOk n x) (hR : R.length = n) (hn : n ≤ 4) (hl : g.length = n) (hb : ∀ p, p < n → 0 ≤ gv g p ∧ gv g p < n) : c__law_is_bettered [⟨spD n R, 1⟩, ⟨.lst (G.map gpD), 1⟩, ⟨iD g, 0⟩] = .ok (⟨.bl (G.any (betG R g)), 0⟩, [⟨spD n R, 1⟩, ⟨.lst (G.map gpD), 1⟩, ⟨iD g, 0⟩]) := by
  refine Ret.eq ?_
  simp (maxSteps := 2000000) -implicitDefEqProofs [-List.getD_eq_getElem?_getD, -own_cons, own_consB, ixT0, ixT1, ixT2, ixT3, ixT4, c__law_is_bettered, m__law_is_bettered]
  refine Ret_search G gpD [3, 4, 5] (fun x => if betG R g x then some (⟨.bl true, 0⟩ : Cell) else none) rfl (fun x jj hx => ?_) fun jj => ?_
  · have ok := hG x hx
    obtain ⟨mem, row⟩ := x
    have ex : gpD (mem, row) = .tup [.lst (nL mem), nD row] := rfl
    have hml : mem.length ≤ n := left_len ok.nd ok.lt
    have hrl : row.length = mem.length := ok.len
    have elen : fLen [⟨nD row, 0⟩] = .ok ⟨.int (row.length : Nat), 0⟩ := by
      show Z.R.ok (Cell.fz (.int ((nL row).length : Nat))) = _
      unfold nL
      rw [List.length_map]
      rfl
    have hpos : 0 < row.length := by rw [hrl]; exact List.length_pos_iff.mpr ok.ne
    simp (maxSteps := 2000000) -implicitDefEqProofs [-List.getD_eq_getElem?_getD, -own_cons, own_consB, ixT0, ixT1, ixT2, ixT3, ixT4, step1, b__law_is_bettered_2, ex, elen, rgD_nat']
    refine ⟨by omega, by omega, ?_⟩
    refine Ret_comp (List.range row.length) (fun (i : Nat) => D.int (i : Int)) (fun k => .int ((spot R (mem.getD k 0) (gv g (mem.getD k 0)) : Int) - (spot R (mem.getD k 0) ((row.getD k 0 : Nat) : Int) : Int))) rfl (fun k hk => ?_) ?_
    · have hk := List.mem_range.mp hk
      have f1 : fIx [⟨.lst (nL mem), 0⟩, ⟨.int (k : Int), 0⟩] = .ok ⟨.int (mem.getD k 0 : Nat), 0⟩ := ixPl (by decide) (by omega)
      have hp : mem.getD k 0 < n := ok.lt _ (by rw [getD_of_lt (by omega)]; exact List.getElem_mem _)
      have hq : row.getD k 0 < n := ok.lt _ (ok.sub _ (by rw [getD_of_lt hk]; exact List.getElem_mem _))
      have f2 := ix_nD (ks := row) (k := 0) (k' := 0) hk
      generalize mem.getD k 0 = p at *
      generalize row.getD k 0 = q at *
      have f3 := ixGT (g := g) (k := 0) (k' := 0) (show p < g.length by omega)
      obtain ⟨b1, b2⟩ := hb p hp
      obtain ⟨a, ha⟩ := Int.eq_ofNat_of_zero_le b1
      rw [ha] at f3
      obtain ⟨s1, s2⟩ := ix_sp (R := R) (k := 1) (k' := 0) hR (by decide) hp hq
      obtain ⟨s3, s4⟩ := ix_sp (R := R) (k := 1) (k' := 0) hR (by decide) hp (show a < n by omega)
      simp (maxSteps := 2000000) -implicitDefEqProofs [-List.getD_eq_getElem?_getD, -own_cons, own_consB, ixT0, ixT1, ixT2, ixT3, ixT4, comp1, e__law_is_bettered_1, f1, f2, f3, s1, s2, s4, ha]
    · have e1 : (List.range row.length).map (fun k => D.int ((spot R (mem.getD k 0) (gv g (mem.getD k 0)) : Int) - (spot R (mem.getD k 0) ((row.getD k 0 : Nat) : Int) : Int))) = (gainL R g (mem, row)).map D.int := by unfold gainL; rw [List.map_map]; rfl
      rw [e1]
      have hne : gainL R g (mem, row) ≠ [] := fun e => by
        have := congrArg List.length e
        unfold gainL at this
        rw [List.length_map, List.length_range, List.length_nil] at this
        dsimp only at this
        omega
      unfold betG
      generalize gainL R g (mem, row) = gs at *
      by_cases c1 : 0 ≤ mnL gs
      · by_cases c2 : 0 < mxL gs
        · simp (maxSteps := 2000000) -implicitDefEqProofs [-List.getD_eq_getElem?_getD, -own_cons, own_consB, ixT0, ixT1, ixT2, ixT3, ixT4, c1, c2]
          exact hne
        · simp (maxSteps := 2000000) -implicitDefEqProofs [-List.getD_eq_getElem?_getD, -own_cons, own_consB, ixT0, ixT1, ixT2, ixT3, ixT4, c1, c2]
          exact hne
      · simp (maxSteps := 2000000) -implicitDefEqProofs [-List.getD_eq_getElem?_getD, -own_cons, own_consB, ixT0, ixT1, ixT2, ixT3, ixT4, c1]
        exact hne
  · rw [some_any]
    cases G.any (betG R g) <;> simp (maxSteps := 2000000) -implicitDefEqProofs [-List.getD_eq_getElem?_getD, -own_cons, own_consB, ixT0, ixT1, ixT2, ixT3, ixT4]
theorem nbb0 : fNe [⟨.bl false, 0⟩, ⟨.bl false, 0⟩] = .ok ⟨.bl false, 0⟩ := rfl
theorem nbb1 : fNe [⟨.bl true, 0⟩, ⟨.bl true, 0⟩] = .ok ⟨.bl false, 0⟩ := rfl
theorem bet_iff (hr : RkOk n n R) (ht : Trade n R told T) (hl : g.length = n) (hb : ∀ p, p < n → 0 ≤ gv g p ∧ gv g p < n) (hi : ∀ p q, p < n → q < n → gv g p = gv g q → p = q) : (groupsN n).any (betG R g) = !decide (g = told) := by
  by_cases hc : g = told
  · subst hc
    rw [decide_eq_true rfl]
    show _ = false
    rw [List.any_eq_false]
    intro x hx
    rw [bet_none hr ht (groups_ok x hx)]
    decide
  · rw [decide_eq_false hc]
    show _ = true
    have : ∃ p, p < n ∧ gv g p ≠ gv told p := Classical.byContradiction fun w => hc (ext_gv3 hl ht.l fun p hp => Classical.byContradiction fun z => w ⟨p, hp, z⟩)
    obtain ⟨x, hx, e⟩ := bet_some hr ht hl hb hi this
    exact List.any_eq_true.mpr ⟨x, hx, e⟩
theorem lie_rk (hr : RkOk n n R) {r : List Int} {p : Nat} (hp : p < n) (h1 : r.Nodup) (h2 : ∀ t, t ∈ r ↔ 0 ≤ t ∧ t < n) (h3 : r.length = n) : RkOk n n (R.take p ++ [r] ++ R.drop (p + 1)) ∧ ∀ q, q < n → q ≠ p → rk (R.take p ++ [r] ++ R.drop (p + 1)) q = rk R q := by
  have hl := hr.l
  have hm : ∀ x ∈ R.take p ++ [r] ++ R.drop (p + 1), x ∈ R ∨ x = r := fun x hx => by
    rcases List.mem_append.mp hx with hx | hx
    · rcases List.mem_append.mp hx with hx | hx
      · exact .inl (List.mem_of_mem_take hx)
      · exact .inr (List.mem_singleton.mp hx)
    · exact .inl (List.mem_of_mem_drop hx)
  refine ⟨⟨by simp; omega, fun x hx => ?_, fun x hx => ?_, fun x hx => ?_⟩, fun q hq hne => ?_⟩
  · rcases hm x hx with h | rfl
    · exact hr.nd x h
    · exact h1
  · rcases hm x hx with h | rfl
    · exact hr.mem x h
    · exact h2
  · rcases hm x hx with h | rfl
    · exact hr.len x h
    · exact h3
  · unfold rk
    rw [List.getD_eq_getElem?_getD, List.getD_eq_getElem?_getD]
    congr 1
    by_cases h : q < p
    · rw [List.append_assoc, List.getElem?_append_left (by rw [List.length_take]; omega), List.getElem?_take, if_pos h]
    · rw [List.getElem?_append_right (by simp; omega), List.getElem?_drop]
      congr 1
      simp
      omega
theorem pure_k17 (ns : List Int) (hl : ns.length ≤ 63) : ∃ fs, c_law_k17 [⟨.scr (ns.map D.int), 0⟩] = .ok (Cell.fz (.bl true), fs) := by
  suffices hh : Ret (c_law_k17 [⟨.scr (ns.map D.int), 0⟩]) fun a => a.1 = Cell.fz (.bl true) by
    obtain ⟨⟨c, fs⟩, e, rfl⟩ := hh
    exact ⟨fs, e⟩
  obtain ⟨l0, e0, h0⟩ := begin_s hl
  generalize D.scr (ns.map D.int) = sd at *
  simp (maxSteps := 2000000) -implicitDefEqProofs [-List.getD_eq_getElem?_getD, -own_cons, own_consB, ixT0, ixT1, ixT2, ixT3, ixT4, c_law_k17, m_law_k17, e0]
  refine Ret_draw h0 (by decide) (by decide) fun n0 l1 h1 hn0 => ?_
  have en : (1 : Int) + (n0 : Int) = ((n0 + 1 : Nat) : Int) := by omega
  obtain ⟨n, hn⟩ : ∃ n, n = n0 + 1 := ⟨_, rfl⟩
  rw [← hn] at en
  have hn1 : 0 < n := by omega
  have hn4 : n ≤ 4 := by omega
  clear hn
  simp (maxSteps := 2000000) -implicitDefEqProofs [-List.getD_eq_getElem?_getD, -own_cons, own_consB, ixT0, ixT1, ixT2, ixT3, ixT4, en]
  refine law_listings17_r h1 hn4 fun R l2 h2 hr => ?_
  have hR := hr.l
  simp (maxSteps := 2000000) -implicitDefEqProofs [-List.getD_eq_getElem?_getD, -own_cons, own_consB, ixT0, ixT1, ixT2, ixT3, ixT4]
  refine law_rings_r hr hn1 hn4 fun due T0 ht0 => ?_
  simp (maxSteps := 2000000) -implicitDefEqProofs [-List.getD_eq_getElem?_getD, -own_cons, own_consB, ixT0, ixT1, ixT2, ixT3, ixT4]
  refine trades_giving_r hr hn1 hn4 fun told T ht => ?_
  have hdt : due = told := trade_eq hr ht ht0
  subst hdt
  have i1 := is_ints_ok (is := due) (by rw [ht.l]; omega)
  have eg := law_groups_ok hn4
  have e00 : rgD 0 (n : Int) = nL (List.range n) := rgD_nL
  have erk : rgOkB 0 (n : Int) = true := by unfold rgOkB; simp; omega
  have ear := law_arranged_ok (ts := List.range n) (by simp; omega)
  rw [List.length_range] at ear
  have hal := arr256 (ts := List.range n) (k := n) (by simp; omega) hn4
  have hmem : ∀ r, r ∈ arrN (List.range n) n ↔ r.length = n ∧ r.Nodup ∧ ∀ x ∈ r, x < n := fun r => by rw [mem_arrN]; simp only [List.mem_range]
  simp (maxSteps := 2000000) -implicitDefEqProofs [-List.getD_eq_getElem?_getD, -own_cons, own_consB, ixT0, ixT1, ixT2, ixT3, ixT4, eq_is_ints, i1, ne_iD3]
  refine ⟨by omega, ?_⟩
  refine Ret_comp R iD (fun r => .lst ((List.range n).map fun (t : Nat) => D.int (r.idxOf (t : Int) : Nat))) rfl (fun r hrm => ?_) ?_
  · simp (maxSteps := 2000000) -implicitDefEqProofs [-List.getD_eq_getElem?_getD, -own_cons, own_consB, ixT0, ixT1, ixT2, ixT3, ixT4, comp1, e_law_k17_2, rgD_nat']
    refine ⟨by omega, by omega, ?_⟩
    refine Ret_comp (List.range n) (fun (i : Nat) => D.int (i : Int)) (fun (t : Nat) => D.int (r.idxOf (t : Int) : Nat)) rfl (fun t htm => ?_) ?_
    · have htn := List.mem_range.mp htm
      have f1 := indexT_I (r := r) (t := (t : Int)) (k := 0) (k' := 0) ((hr.mem r hrm _).mpr ⟨by omega, by omega⟩)
      have f2 : isLstD (iD r) = false := rfl
      have f3 : isTupD (iD r) = true := rfl
      simp (maxSteps := 2000000) -implicitDefEqProofs [-List.getD_eq_getElem?_getD, -own_cons, own_consB, ixT0, ixT1, ixT2, ixT3, ixT4, comp1, e_law_k17_1, mIndex, f1, f2, f3]
    · simp (maxSteps := 2000000) -implicitDefEqProofs [-List.getD_eq_getElem?_getD, -own_cons, own_consB, ixT0, ixT1, ixT2, ixT3, ixT4]
  · have esp : D.lst (R.map fun r => .lst ((List.range n).map fun (t : Nat) => D.int (r.idxOf (t : Int) : Nat))) = spD n R := rfl
    simp (maxSteps := 2000000) -implicitDefEqProofs [-List.getD_eq_getElem?_getD, -own_cons, own_consB, ixT0, ixT1, ixT2, ixT3, ixT4, esp, eg, e00, erk, ear]
    generalize arrN (List.range n) n = every at *
    have perm : ∀ r ∈ every, r.length = n ∧ r.Nodup ∧ (∀ x ∈ r, x < n) ∧ (ups r).Nodup ∧ (∀ t, t ∈ ups r ↔ 0 ≤ t ∧ t < n) ∧ (ups r).length = n := fun r hm => by
      obtain ⟨r1, r2, r3⟩ := (hmem r).mp hm
      have hsub := sub_of_len (l1 := r) (l2 := List.range n) r2 (fun x hx => List.mem_range.mpr (r3 x hx)) (by rw [List.length_range]; omega)
      have hp : IsPm n r := (List.perm_ext_iff_of_nodup r2 List.nodup_range).mpr fun x => ⟨fun hx => List.mem_range.mpr (r3 x hx), hsub x⟩
      obtain ⟨u1, u2, u3⟩ := ups_ok hp
      exact ⟨r1, r2, r3, u1, u2, u3⟩
    have eups : every.map nD = (every.map ups).map iD := by rw [List.map_map]; exact List.map_congr_left fun r _ => ups_d
    rw [eups]
    have perm2 : ∀ g ∈ every.map ups, g.Nodup ∧ (∀ t, t ∈ g ↔ 0 ≤ t ∧ t < n) ∧ g.length = n := fun g hg => by
      obtain ⟨r, hm, rfl⟩ := List.mem_map.mp hg
      exact (perm r hm).2.2.2
    have hel : (every.map ups).length ≤ 256 := by rw [List.length_map]; exact hal
    generalize every.map ups = gs at *
    have gvm : ∀ g ∈ gs, ∀ p, p < n → 0 ≤ gv g p ∧ gv g p < n := fun g hg p hp => by
      obtain ⟨g1, g2, g3⟩ := perm2 g hg
      exact (g2 _).mp (gv_mem.mpr ⟨p, by omega, rfl⟩)
    have gvi : ∀ g ∈ gs, ∀ p q, p < n → q < n → gv g p = gv g q → p = q := fun g hg p q hp hq e => by
      obtain ⟨g1, g2, g3⟩ := perm2 g hg
      unfold gv at e
      rw [getD_of_lt (by omega), getD_of_lt (by omega)] at e
      have a := idx_get g1 (show p < g.length by omega)
      have b := idx_get g1 (show q < g.length by omega)
      rw [e] at a
      exact a.symm.trans b
    refine Ret_for gs iD [11] (fun (_ : Unit) ρ => ρ) (fun _ _ _ => True) () rfl rfl trivial (fun done g rest _ j e _ => ?_) fun _ j _ => ?_
    · have hg : g ∈ gs := by rw [e]; simp
      obtain ⟨g1, g2, g3⟩ := perm2 g hg
      have eb := law_is_bettered_ok (g := g) (groups_ok (n := n)) hR hn4 g3 (gvm g hg)
      rw [bet_iff hr ht g3 (gvm g hg) (gvi g hg)] at eb
      have en2 := ne_iD3 (g := g) (h := due) (k := 0) (k' := 0)
      by_cases hc : g = due
      · rw [decide_eq_true hc] at eb en2
        simp (maxSteps := 2000000) -implicitDefEqProofs [-List.getD_eq_getElem?_getD, -own_cons, own_consB, ixT0, ixT1, ixT2, ixT3, ixT4, step1, b_law_k17_3, eb, en2, nbb0]
      · rw [decide_eq_false hc] at eb en2
        simp (maxSteps := 2000000) -implicitDefEqProofs [-List.getD_eq_getElem?_getD, -own_cons, own_consB, ixT0, ixT1, ixT2, ixT3, ixT4, step1, b_law_k17_3, eb, en2, nbb1]
    · simp (maxSteps := 2000000) -implicitDefEqProofs [-List.getD_eq_getElem?_getD, -own_cons, own_consB, ixT0, ixT1, ixT2, ixT3, ixT4]
      refine Ret_drawN h2 hn1 (by omega) fun p l3 h3 hp => ?_
      simp (maxSteps := 2000000) -implicitDefEqProofs [-List.getD_eq_getElem?_getD, -own_cons, own_consB, ixT0, ixT1, ixT2, ixT3, ixT4]
      refine Ret_for gs iD [13, 14, 15] (fun (_ : Unit) ρ => ρ) (fun _ _ _ => True) () rfl rfl trivial (fun done g rest _ j2 e _ => ?_) fun _ j2 _ => ?_
      · have hg : g ∈ gs := by rw [e]; simp
        obtain ⟨g1, g2, g3⟩ := perm2 g hg
        obtain ⟨hr2, hrq⟩ := lie_rk hr hp g1 g2 g3
        have s1 : fSl ⟨RD R, 0⟩ none (some (p : Int)) = .ok ⟨.tup ((R.take p).map iD), 0⟩ := by
          have e1 : fSl ⟨RD R, 0⟩ none (some (p : Int)) = .ok ⟨.tup (cutD (R.map iD) none (some (p : Int))), 0⟩ := rfl
          rw [e1, cutD_to (by rw [List.length_map]; omega), ← List.map_take]
        have s2 : fSl ⟨RD R, 0⟩ (some ((p : Int) + 1)) none = .ok ⟨.tup ((R.drop (p + 1)).map iD), 0⟩ := by
          have e1 : fSl ⟨RD R, 0⟩ (some ((p : Int) + 1)) none = .ok ⟨.tup (cutD (R.map iD) (some (((p + 1 : Nat)) : Int)) none), 0⟩ := rfl
          rw [e1, cutD_from (by rw [List.length_map]; omega), ← List.map_drop]
        have a3 : D.tup ((R.map iD).take p ++ iD g :: (R.map iD).drop (p + 1)) = RD (R.take p ++ [g] ++ R.drop (p + 1)) := by
          unfold RD
          rw [← List.map_take, ← List.map_drop]
          simp
        generalize R.take p ++ [g] ++ R.drop (p + 1) = R2 at *
        simp (maxSteps := 2000000) -implicitDefEqProofs [-List.getD_eq_getElem?_getD, -own_cons, own_consB, ixT0, ixT1, ixT2, ixT3, ixT4, step1, b_law_k17_4, s1, s2]
        rw [a3]
        refine ⟨by omega, by omega, ?_⟩
        refine trades_giving_r hr2 hn1 hn4 fun other T2 ht2 => ?_
        have i2 := is_ints_ok (is := other) (by rw [ht2.l]; omega)
        simp (maxSteps := 2000000) -implicitDefEqProofs [-List.getD_eq_getElem?_getD, -own_cons, own_consB, ixT0, ixT1, ixT2, ixT3, ixT4, eq_is_ints, i2]
        refine law_rings_r hr2 hn1 hn4 fun other2 T3 ht3 => ?_
        have ho := trade_eq hr2 ht2 ht3
        subst ho
        have hsame := trade_uniq hr ht ht2 (T p) (fun q hq hT => (hrq q hq (fun z => by rw [z] at hT; omega)).symm)
        have hTo : T p ≤ T (gv other2 p).toNat := by
          by_cases z : T p ≤ T (gv other2 p).toNat
          · exact z
          · exfalso
            obtain ⟨x, ⟨x1, x2⟩, ex⟩ := surj_on (n := n) (A := fun q => q < n ∧ T q < T p) (f := fun q => (gv due q).toNat) (fun _ h => h.1) (fun q ⟨q1, q2⟩ => ⟨(ht.gn q1).1, by rw [ht.lev q q1]; exact q2⟩) (fun q w ⟨q1, _⟩ ⟨w1, _⟩ e => ht.injn q1 w1 e) (y := (gv other2 p).toNat) ⟨(ht2.gn hp).1, by omega⟩
            have e1 := hsame x x1 x2
            have e2 : p = x := ht2.injn hp x1 (by rw [e1]; exact ex.symm)
            rw [← e2] at x2
            omega
        have hbest := ht.best p hp _ (ht2.gn hp).1 hTo
        rw [(ht2.gn hp).2] at hbest
        have f1 := ixGT (g := other2) (k := 0) (k' := 0) (show p < other2.length by rw [ht2.l]; exact hp)
        have f2 := ixGT (g := due) (k := 0) (k' := 0) (show p < due.length by rw [ht.l]; exact hp)
        obtain ⟨b1, b2⟩ := ht2.b p hp
        obtain ⟨c1, c2⟩ := ht.b p hp
        obtain ⟨a, ha⟩ := Int.eq_ofNat_of_zero_le b1
        obtain ⟨c, hc⟩ := Int.eq_ofNat_of_zero_le c1
        rw [ha] at f1 hbest
        rw [hc] at f2 hbest
        obtain ⟨q1, q2⟩ := ix_sp (R := R) (k := 1) (k' := 0) hR (by decide) hp (show a < n by omega)
        obtain ⟨_, q3⟩ := ix_sp (R := R) (k := 1) (k' := 0) hR (by decide) hp (show c < n by omega)
        have hlt : ((spot R p (a : Int) : Nat) : Int) < ((spot R p (c : Int) : Nat) : Int) ↔ False := by
          constructor
          · intro z; omega
          · exact False.elim
        simp (maxSteps := 2000000) -implicitDefEqProofs [-List.getD_eq_getElem?_getD, -own_cons, own_consB, ixT0, ixT1, ixT2, ixT3, ixT4, ne_iD3, f1, f2, q1, q2, q3, hlt]
      · simp (maxSteps := 2000000) -implicitDefEqProofs [-List.getD_eq_getElem?_getD, -own_cons, own_consB, ixT0, ixT1, ixT2, ixT3, ixT4]
        refine trades_giving_r hr hn1 hn4 fun again T2 ht2 => ?_
        have ha := trade_eq hr ht ht2
        subst ha
        simp (maxSteps := 2000000) -implicitDefEqProofs [-List.getD_eq_getElem?_getD, -own_cons, own_consB, ixT0, ixT1, ixT2, ixT3, ixT4, eq_is_ints, i1, eq_iD3]
end
end S

theorem PySem.Challenge.cw_plainhearing_k17_trades_holds : PySem.Challenge.rw_plainhearing_k17_trades.Holds := by
  exact P_k17.end_ S.pure_k17


