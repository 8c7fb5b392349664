import PyProof.Rows.All
import Wide.All
import OpenK.AllK
import Wide.FinOn
import PyProof.EqAt
import PyProof.EqKinds
import PyProof.TupleCall
import HandS.ForMost
import HandS.Walk
import HandS.TupAny
import HandS.Conv
import HandS.Strs
import KE.KIndexOf
import HandS.TupMul
import HandS.Style
import KE.KRevSl
import HandS.Nested
import HandS.Wide
import KE.DataCmp
import KE.SortData
import HandS.Zip
import KE.DataEq
import HandS.SetFor
import HandS.SortKw
import KE.DataMinMax
import OpenK.KEqL
import PyProof.SumAny
import HandS.IsInst
import HandS.Dict
import KE.GoesMore
import KE.GoesEnum
import KE.GoesZip
import HandS.NoneIn
import HandS.MakeKwOnly
import HandS.Deep
import KE.KDictKeyed
import HandS.EndBits
import PyProof.Rows.ReprOcc
import PyProof.ReprBulk
import PySem.Challenge.RW_evenpacks_k08_whole_luck_and_names_make
set_option Elab.async false
set_option linter.all false
set_option maxRecDepth 100000
set_option maxHeartbeats 4000000
namespace Tr
open PySem PySem.Spec PyProof.Rows L2
def TupG (G : Hp) (a : Addr) (xs : List V) : Prop := ∃ o, G a = some (.frz o (.tup xs)) ∧ o.dict = none
section
variable {X : Cx} {pins : List (Addr × Obj)} {σ : L2.St} {H : Hp} {s : Shared} {K : PySem.W.Frag}
theorem TupG.sq {a : Addr} {xs : List V} (h : TupG H a xs) : SqT K H a xs := by
  obtain ⟨o, e, _⟩ := h
  exact .inl (.inr ⟨o, e⟩)
theorem TupG.grow {G G' : Hp} {a : Addr} {xs : List V} (h : TupG G a xs) (g : ∀ a o, G a = some o → G' a = some o) : TupG G' a xs := h.imp fun _ z => ⟨g _ _ z.1, z.2⟩
/-- what waits for a new tuple -/
def NewT (Q : VK) (H : Hp) (ys : List V) : Prop := ∀ (p : Addr) (o : Obj), H p = none → o.dict = none → Q (.ref p) (upd H p (.frz o (.tup ys)))
theorem fresh_tup (I : Inv X pins σ H s) {ys : List V} {its : List Value} (r : Vals ys its) (z : ys.length ≤ sizeLine) {o : Obj} {n : Nat} (hc : o.cls = .type "tuple") (hd : o.data = .seq its.toArray n) (hn : o.dict = none) (hf : o.isFreed = false) {Q : VK} (q : NewT Q H ys) :
    EP X pins σ Q (.ref s.heap.objs.size) { s with heap := s.heap.push o } := by
  have new : ObjOk X.prog X.w (upd H s.heap.objs.size (.frz o (.tup ys))) (s.heap.push o) s.heap.objs.size (.frz o (.tup ys)) := by
    have e := Heap.get?_push_size s.heap (o := o) hf
    exact ⟨e, z, its, r, ⟨o, e, hc, n, hd⟩⟩
  exact ⟨.ref _, _, I.laid (t' := s.toks) (fun c u e => Heap.get?_push_of_some _ e) (Nat.le_refl _) new, rfl, q _ o (I.hok.fresh (Nat.le_refl _)) hn⟩
end
section
variable {X : Cx} {es : List Expr} {t : TA} {pos : Pos}
def fTup (t : TA) : TE := fun σ H Q => t σ H fun xs H1 => xs.length ≤ sizeLine ∧ NewT Q H1 xs
theorem pf_tup {k : Nat} (h : PA X es t) : PE X (.Tuple es k pos) (fTup t) := by
  constructor
  intro pins s σ H Q I hq
  refine wpAny_Tuple_spliced (thn (h.run pos pins s σ H _ I hq) fun us s1 ⟨xs, H1, I1, r, z, q⟩ => ?_)
  exact ⟨by rw [← r.length]; exact z, fresh_tup I1 r z rfl rfl rfl rfl q⟩
theorem cf_tuple : CallR X (.type "tuple") (fun xs H Q => ∃ p ys, xs = [.ref p] ∧ ((SqL X.K H p ys ∧ NewT Q H ys) ∨ (SqT X.K H p ys ∧ Q (.ref p) H))) := by
  rintro pins s σ H xs us Q I r ⟨p, ys, rfl, h⟩
  obtain ⟨u, rfl, rx⟩ := vals1 r
  cases rx
  cases h with
  | inr h =>
    obtain ⟨its, _, pl, _⟩ := I.tuple h.1
    exact call_tuple_same pl ⟨.ref p, H, I, rfl, h.2⟩
  | inl h =>
    obtain ⟨its, r', pl, hz⟩ := I.list h.1
    refine call_tuple_list pl.isList (fun h' kp => ?_) (by simp only [List.size_toArray]; have := r'.length; omega)
    exact fresh_tup (I.kept (t' := s.toks) kp) r' hz rfl rfl rfl rfl h.2
def fSl (K : PySem.W.Frag) : V → Option Int → Option Int → Hp → VK → Prop := fun x lo hi H Q => ∃ a xs, x = .ref a ∧ SqT K H a xs ∧
  (HT.sIx xs.length 0 lo = 0 ∧ HT.sIx xs.length xs.length hi = xs.length → Q (.ref a) H) ∧ (¬ (HT.sIx xs.length 0 lo = 0 ∧ HT.sIx xs.length xs.length hi = xs.length) → NewT Q H (cutV xs lo hi))
theorem sf_tup : SlR X (fSl X.K) := by
  rintro pins s σ H x v vl vu lo hi sl Q I rx hs pl pu ⟨a, xs, rfl, hx, q1, q2⟩
  cases rx
  obtain ⟨its, r, ht, hz⟩ := I.tuple hx
  have hlen : its.toArray.size = xs.length := by
    rw [List.size_toArray]
    exact r.length.symm
  refine ⟨"tuple", _, PyProof.Rows.slot_tuple_getitem.lookup, ht.typeIs, ?_⟩
  rcases Classical.em (HT.sIx xs.length 0 lo = 0 ∧ HT.sIx xs.length xs.length hi = xs.length) with hw | hw
  · exact getItem_tuple_whole ht hs pl pu (by rw [hlen]; exact hw) ⟨.ref a, H, I, rfl, q1 hw⟩
  · refine HT.getItem_tuple_cut ht hs pl pu (by rw [hlen]; exact hw) ?_ (by rw [hlen]; exact hz)
    rw [hlen]
    exact fresh_tup I ((r.drop _).take _) (Nat.le_trans (cutV_length xs lo hi) hz) rfl rfl rfl rfl (q2 hw)
def fCat (K : PySem.W.Frag) : R2 := fun x y H Q => ∃ a b xs ys, x = .ref a ∧ y = .ref b ∧ SqT K H a xs ∧ SqT K H b ys ∧ xs.length + ys.length ≤ sizeLine ∧
  (xs = [] → Q (.ref b) H) ∧ (xs ≠ [] → ys = [] → Q (.ref a) H) ∧ (xs ≠ [] → ys ≠ [] → NewT Q H (xs ++ ys))
theorem of_cat : OpR X (binaryOp .Add) (fCat X.K) := by
  rintro pins s σ H x y v u Q I rx ry ⟨a, b, xs, ys, rfl, rfl, ha, hb, hz, q0, q1, q2⟩
  cases rx
  cases ry
  obtain ⟨its, r1, p1, _⟩ := I.tuple ha
  obtain ⟨its2, r2, p2, _⟩ := I.tuple hb
  rcases Classical.em (xs = []) with hx | hx
  · subst hx
    cases r1
    exact cat_tup0 p1 p2 ⟨.ref b, H, I, rfl, q0 rfl⟩
  · refine HT.cat_tup p1 p2 (fun z => hx (r1.nil_iff.mp z)) (fun z => ?_) (fun z => ?_) (by rw [← r1.length, ← r2.length]; exact hz)
    · exact ⟨.ref a, H, I, rfl, q1 hx (r2.nil_iff.mp z)⟩
    · exact fresh_tup I (r1.append r2) (by rw [List.length_append]; exact hz) rfl rfl rfl rfl (q2 hx fun w => z (r2.nil_iff.mpr w))
/-- once over: the tuple itself -/
theorem tm_one (l : Addr) (its : Array Value) (n : Nat) (dd : Option Addr) (sl : Array (Option Value)) (u : Tok) :
    Meets (Builtin.«tuple.__mul__» ⟨[.ref l, .int 1 u], []⟩) (fun _ R s => s.heap.get? l = some { cls := .type "tuple", dict := dd, data := .seq its n, slots := sl } ∧ R (.ok (.ret (Value.ref l))) s) :=
  .of_wp fun prog w A R s ⟨at', goal⟩ => by
    obtain ⟨hp, g, d, tk, os⟩ := s; have f1 := AutoSeq1.idx_int
    (wp_walk using wpAny_loadPart' at'); exact ⟨_, rfl, goal⟩
/-- no time over: an empty one -/
theorem tm_zero (l : Addr) (items : Array Value) (n : Nat) (dd : Option Addr) (sl : Array (Option Value)) (u : Tok) (c1 : (items.isEmpty || (0 : Int) == 1) = false) :
    Meets (Builtin.«tuple.__mul__» ⟨[.ref l, .int 0 u], []⟩) (fun _ R s => s.heap.get? l = some { cls := .type "tuple", dict := dd, data := .seq items n, slots := sl } ∧
      R (.ok (.ret (Value.ref s.heap.objs.size))) { s with heap := s.heap.push { cls := Value.type "tuple", data := Data.seq #[] }, toks := s.toks }) :=
  .of_wp fun prog w A R s h => by
    obtain ⟨hp, g, d, tk, os⟩ := s
    obtain ⟨hl, h⟩ := h
    have f1 := AutoSeq1.idx_int
    wp_walk using wpAny_loadPart' hl
    repeat (first
      | (refine wpAny_ite_false (decide_eq_false (by rw [c1]; exact Bool.false_ne_true)) ?_; wp_walk using wpAny_loadPart' hl))
    exact ⟨_, rfl, h⟩
def fRep (K : PySem.W.Frag) : R2 := fun x y H Q => ∃ l k xs, x = .ref l ∧ y = .int k ∧ SqT K H l xs ∧ xs ≠ [] ∧ 0 ≤ k ∧ k ≤ 1000 ∧ xs.length ≤ 1000 ∧ (k = 1 → Q (.ref l) H) ∧ (k ≠ 1 → NewT Q H (List.replicate k.toNat xs).flatten)
theorem of_rep : OpR X (binaryOp .Mult) (fRep X.K) := by
  rintro pins s σ H x y v u Q I rx ry ⟨l, k, xs, rfl, rfl, hT, hne, h1, h2, hz, q1, q2⟩
  cases rx
  obtain ⟨t, rfl⟩ := ry
  obtain ⟨its, r, ⟨⟨cls, dd, data, sl⟩, ho, hc, n, hd⟩, hs⟩ := I.tuple hT
  simp only at hc hd
  subst hc hd
  have hle := r.length
  by_cases hk : k = 1
  · subst hk
    exact wpAny_binaryOp_repeat_ref (T := "tuple") (U := "int") (by decide) ⟨_, ho, rfl⟩ (fun s' => typeIs_int s' 1 t) noFill_tuple_mul PySem.F.fills_int_mul PySem.F.slot_int_rmul repeat_tuple PySem.F.slot_int_index.lookup
      (call_meets PySem.F.slot_int_rmul (typeIs_int s 1 t) PySem.F.entry_int_rmul (PySem.F.args_int_rmul_2 _ _) (int_rmul_tuple 1 t l its.toArray n dd sl)
        ⟨ho, rfl, ⟨_, ho, rfl⟩, call_meets PySem.F.slot_tuple_mul ⟨_, ho, rfl⟩ PySem.F.entry_tuple_mul (PySem.F.args_tuple_mul_2 _ _) (tm_one l its.toArray n dd sl t) ⟨ho, .ref l, H, I, rfl, q1 rfl⟩⟩)
  · have hi : its.toArray.isEmpty = false := by
      cases its with
      | nil => exact absurd (List.eq_nil_of_length_eq_zero hle) hne
      | cons a b => rfl
    by_cases hk0 : k = 0
    · subst hk0
      refine wpAny_binaryOp_repeat_ref (T := "tuple") (U := "int") (by decide) ⟨_, ho, rfl⟩ (fun s' => typeIs_int s' 0 t) noFill_tuple_mul PySem.F.fills_int_mul PySem.F.slot_int_rmul repeat_tuple PySem.F.slot_int_index.lookup
        (call_meets PySem.F.slot_int_rmul (typeIs_int s 0 t) PySem.F.entry_int_rmul (PySem.F.args_int_rmul_2 _ _) (int_rmul_tuple 0 t l its.toArray n dd sl)
          ⟨ho, rfl, ⟨_, ho, rfl⟩, call_meets PySem.F.slot_tuple_mul ⟨_, ho, rfl⟩ PySem.F.entry_tuple_mul (PySem.F.args_tuple_mul_2 _ _) (tm_zero l its.toArray n dd sl t (by rw [hi]; rfl)) ⟨ho, ?_⟩⟩)
      exact fresh_tup I (ys := []) (its := []) .nil (Nat.zero_le _) rfl rfl rfl rfl (q2 (by decide))
    have hsz : its.toArray.size = xs.length := by rw [List.size_toArray, hle]
    have a1 : ((xs.length : Nat) : Int) * k ≤ 1000 * k := Int.mul_le_mul_of_nonneg_right (by omega) (by omega)
    have a2 : k.toNat * xs.length ≤ 1000 * 1000 := Nat.mul_le_mul (by omega) hz
    have fl : (List.replicate k.toNat its).flatten.length ≤ sizeLine := by
      rw [PyProof.Rows.lm_len_rep_flat, ← hle, sizeLine_eq]
      omega
    have fx : (List.replicate k.toNat xs).flatten.length ≤ sizeLine := by
      rw [PyProof.Rows.lm_len_rep_flat, sizeLine_eq]
      omega
    have e0 : (decide (k < -(2 ^ 63)) || decide (k ≥ 2 ^ 63)) = false := by
      rw [decide_eq_false (show ¬ k < -(2 ^ 63) by omega), decide_eq_false (show ¬ k ≥ 2 ^ 63 by omega)]; rfl
    have e1 : (its.toArray.isEmpty || k == 1) = false := by rw [hi, beq_eq_false_iff_ne.mpr hk]; rfl
    have e2 : (decide (k ≤ 0) || its.toArray.isEmpty) = false := by rw [hi, decide_eq_false (show ¬ k ≤ 0 by omega)]; rfl
    have e4 : Builtin.Tuple.tupleTooMany (((its.toArray.size : Nat) : Int) * k) = false := by
      rw [hsz]; unfold Builtin.Tuple.tupleTooMany; rw [sizeLine_eq]; exact decide_eq_false (by omega)
    refine wpAny_binaryOp_repeat_ref (T := "tuple") (U := "int") (by decide) ⟨_, ho, rfl⟩ (fun s' => typeIs_int s' k t) noFill_tuple_mul PySem.F.fills_int_mul PySem.F.slot_int_rmul repeat_tuple PySem.F.slot_int_index.lookup
      (call_meets PySem.F.slot_int_rmul (typeIs_int s k t) PySem.F.entry_int_rmul (PySem.F.args_int_rmul_2 _ _) (int_rmul_tuple k t l its.toArray n dd sl)
        ⟨ho, rfl, ⟨_, ho, rfl⟩, call_meets PySem.F.slot_tuple_mul ⟨_, ho, rfl⟩ PySem.F.entry_tuple_mul (PySem.F.args_tuple_mul_2 _ _) (tuple_mulW l its.toArray n dd sl k t e0 e1 e2 (by rw [hsz]; omega) e4 (by rw [size_rep, List.size_toArray]; exact fl)) ⟨ho, ?_⟩⟩)
    rw [size_rep]
    exact fresh_tup I (r.rep k.toNat) fx rfl rfl rfl rfl (q2 (by omega))
/-- tuple(range(..)) -/
def fRg (te : L2.St → Hp → (Int → Int → Hp → Prop) → Prop) : TE := fun σ H Q => te σ H fun a b H1 => RgOk a b ∧ NewT Q H1 (rgV a b)
theorem pf_rng {e : Expr} {p : Pos} {te : L2.St → Hp → (Int → Int → Hp → Prop) → Prop} (hc : X.calm = true) (hg : Gl X "tuple") (hm : X.mg "tuple" = none) (he : PRg X e te) (na : starEach [e] X.env = (false, eval e X.env) :: starEach [] X.env) :
    PE X (.Call (.Name "tuple" p) [e] [] pos) (fRg te) := by
  constructor
  intro pins s σ H Q I h
  refine Call_ (ld_blt I hg hm boot_tuple (PyProof.Rows.callWith_type1 (args_cons (thn (he pins s σ H _ I h) ?_) na) na))
  rintro x s1 ⟨r, a, b, t, u, v, H1, rfl, hr, I1, ⟨b1, b2, b3, b4, b5⟩, q⟩
  refine args_nil (call_tuple_range (n := (b - a).toNat) (I1.ok.hd hc) hr (small_one b1 b2 b3 b4) (rangeSize_nat a b) b5 fun h' tk acc hk hi => ?_)
  have hz : (rgV a b).length ≤ sizeLine := by
    rw [rgV_length, sizeLine_eq]
    omega
  exact fresh_tup (I1.kept (t' := tk) hk) (its := acc.toList) (vals_rg hi) hz rfl (by rw [Array.toArray_toList]) rfl rfl q
theorem mf_index : MtR X "tuple.index" (fun x xs H Q => ∃ p, ∃ ys : List Int, ∃ z, x = .ref p ∧ xs = [.int z] ∧ SqT X.K H p (ys.map V.int) ∧ z ∈ ys ∧ Q (.int (ys.idxOf z : Nat)) H) := by
  rintro pins s σ H x xs v us Q I rx rs ⟨p, ys, z, rfl, rfl, hq, hz, q⟩
  cases rx
  obtain ⟨u, rfl, t, rfl⟩ := vals1 rs
  obtain ⟨its, r, pl, _⟩ := I.tuple hq
  exact PySem.SeqAt.tuple_index_ints pl (intsAre_of r) hz ⟨.int _, H, I.tok _, ⟨_, rfl⟩, q⟩
/-- extend by a tuple -/
theorem list_extend_tup (l : Addr) (items : Array Value) (n : Nat) (b : Addr) (items2 : Array Value) (n2 : Nat) (dd : Option Addr) (sl : Array (Option Value)) (hs0 : ¬(!items.isEmpty && Builtin.List.listTooLong (items.size + items2.size)) = true) (hs1 : items.size ≤ sizeLine) (hs2 : items.size + items2.size ≤ sizeLine + 1) :
    Meets (Builtin.«list.extend» ⟨[.ref l, .ref b], []⟩) (fun _ R s => s.heap.get? l = some { cls := .type "list", dict := none, data := .seq items n, slots := #[] } ∧ s.heap.get? b = some { cls := .type "tuple", dict := dd, data := .seq items2 n2, slots := sl } ∧ R (.ok (.ret Value.none)) { s with heap := s.heap.update l (Obj.mapSeq fun x => x ++ items2), toks := s.toks }) :=
  .of_wp fun prog w A R s h => by
    obtain ⟨hp, g, d, tk, os⟩ := s; obtain ⟨hl, hb, h⟩ := h; have f1 := AutoSeq1.idx_int; have f2 := AutoSeq1.sub_tuple_tuple; have f3 := AutoSeq1.sub_list_list; have f4 := AutoSeq1.sub_tuple_list; have f5 := AutoSeq1.sub_list_tuple
    have hz' : (items ++ items2).size ≤ sizeLine + 1 := by rw [Array.size_append]; exact hs2
    (wp_walk using (wpAny_updateSeq hl rfl (hz := hs1) (_hz' := hz')), wpAny_loadPart' hl, wpAny_loadPart' hb); exact ⟨_, rfl, h⟩
def rExtT (K : PySem.W.Frag) : V → List V → Hp → VK → Prop := fun x vs H Q => ∃ l b xs zs, x = .ref l ∧ vs = [.ref b] ∧ H l = some (.lst xs) ∧ SqT K H b zs ∧ xs.length + zs.length ≤ sizeLine ∧ Q .non (upd H l (.lst (xs ++ zs)))
theorem mt_extT : MtM X "list.extend" (rExtT X.K) := by
  intro pins s σ H x vs v us Q I rx rv h
  obtain ⟨l, b, xs, zs, rfl, rfl, hH, hB, hz, q⟩ := h
  cases rx
  obtain ⟨u, rfl, ru⟩ := rv.one
  cases ru
  obtain ⟨z, its, n, r, hl, e⟩ := I.lstM hH
  obtain ⟨its2, r2, ⟨⟨cls, dd, data, sl⟩, ho, hc, n2, hd⟩, hs⟩ := I.tuple hB
  simp only at hc hd
  subst hc hd
  have l1 := r.length
  have l2 := r2.length
  have hsz : its.toArray.size + its2.toArray.size ≤ sizeLine := by rw [List.size_toArray, List.size_toArray]; omega
  have hlong : ¬ (!its.toArray.isEmpty && Builtin.List.listTooLong (its.toArray.size + its2.toArray.size)) = true := by
    rw [notLongL hsz, Bool.and_false]
    exact Bool.false_ne_true
  refine call_meets F.slot_list_extend ⟨_, e, rfl⟩ F.entry_list_extend (F.args_list_extend_2 _ _)
    (list_extend_tup l its.toArray n b its2.toArray n2 dd sl hlong (by rw [List.size_toArray]; omega) (by omega)) ⟨e, ho, ?_⟩
  refine ⟨.non, _, I.lset (its' := its ++ its2) hH e (by simp) (r.append r2) ?_, rfl, q⟩
  rw [List.length_append]
  omega
def fMet (r : V → List V → Hp → VK → Prop) (to : TE) (t : TA) : TE := fun σ H Q => to σ H fun x H1 => (∃ p xs, x = .ref p ∧ TupG H1 p xs) ∧ t σ H1 fun vs H2 => r x vs H2 Q
theorem pf_met {o e : Expr} {to : TE} {name : Str} {apos : Pos} {id : String} {r : V → List V → Hp → VK → Prop} (slot : Slot "tuple" name id) (hty : typeOf (.builtin id) = pure (.type "method_descriptor")) (hm : MtR X id r) (ho : PE X o to) (ha : PA X [e] t)
    (hb : attributeBase o name X.env (eval o X.env) = eval o X.env)
    (hfew : ((backTo pos (starEach [e] X.env)).all (fun x => !x.1) && (backToKw pos (keywordEach [] X.env)).all (fun x => x.1.isSome) && decide ([e].length + ([] : List Keyword).length + (if ([] : List Keyword).isEmpty then 0 else 1) < 30)) = true)
    (hl : (apos.endLine == pos.line) = true) (hs : starEach [e] X.env = (false, eval e X.env) :: starEach [] X.env) : PE X (.Call (.Attribute o name apos) [e] [] pos) (fMet r to t) := by
  constructor
  intro pins s σ H Q I h
  refine wpAny_Call_method_late hb hfew hl rfl (thn (ho.run pins s σ H _ I h) ?_)
  rintro v s1 ⟨x, H1, I1, r1, ⟨p, xs, rfl, ob, eh, dn⟩, q1⟩
  have hob : s1.heap.get? p = some ob := (I1.hok p _ eh).1
  have hcl : ob.cls = .type "tuple" := by
    obtain ⟨_, _, _, ob', e', c', _⟩ := (I1.hok p _ eh).2
    rw [hob] at e'
    cases e'
    exact c'
  cases r1
  refine ⟨"tuple", id, PySem.F.plainAttrs_tuple, slot, hty, ⟨ob, hob, hcl⟩, fun a e => by cases e; exact ⟨ob, hob, dn⟩, ?_⟩
  have hA := ha.run pos pins s1 σ H1 _ I1 q1
  rw [hs] at hA ⊢
  refine Calls.callWith_builtin rfl (Calls.evalArgs_plain (thn hA ?_))
  rintro us s2 ⟨vs, H2, I2, r2, q2⟩
  exact hm pins s2 σ H2 (.ref p) vs (.ref p) us Q I2 rfl r2 q2
end
end Tr
set_option Elab.async false
set_option linter.all false
set_option maxRecDepth 100000
set_option maxHeartbeats 4000000
namespace Tr
open PySem PySem.Spec PyProof.Rows L2
theorem adjust_rev (n : Nat) : Builtin.Slice.sliceAdjust none none (-1) (n : Int) = ((n : Int) - 1, -1) := by
  unfold Builtin.Slice.sliceAdjust
  have h : ((-1 : Int) < 0) := by decide
  simp only [h, if_true]
theorem places_rev (n : Nat) : Builtin.Slice.slicePlaces ((n : Int) - 1) (-1) (-1) = n := by
  unfold Builtin.Slice.slicePlaces
  have h : ¬ ((-1 : Int) > 0) := by decide
  simp only [h, if_false]
  by_cases hn : ((n : Int) - 1 > -1)
  · rw [if_pos hn]
    have : ((n : Int) - 1 - -1 - 1) / - -1 + 1 = n := by
      rw [Int.neg_neg, Int.ediv_one]
      omega
    rw [this, Int.toNat_natCast]
  · rw [if_neg hn]
    omega
theorem fm_map {α β : Type} {f : α → Option β} {g : α → β} : ∀ {l : List α}, (∀ m ∈ l, f m = some (g m)) → l.filterMap f = l.map g
  | [], _ => rfl
  | x :: l, h => by
    rw [List.filterMap_cons, h x (by simp), fm_map fun m hm => h m (by simp [hm])]
    rfl
theorem pick_rev (xs : Array Value) : ((List.range xs.size).filterMap fun (m : Nat) => xs[(((xs.size : Nat) : Int) - 1 + (m : Int) * -1).toNat]?).toArray = xs.toList.reverse.toArray := by
  congr 1
  have key : ∀ m, m ∈ List.range xs.size → (fun (m : Nat) => xs[(((xs.size : Nat) : Int) - 1 + (m : Int) * -1).toNat]?) m = some (xs.toList.reverse.getD m .none) := fun m hm => by
    have hm := List.mem_range.mp hm
    have e : (((xs.size : Nat) : Int) - 1 + (m : Int) * -1).toNat = xs.size - 1 - m := by omega
    show xs[_]? = _
    rw [e, List.getD_eq_getElem?_getD, List.getElem?_reverse (by simpa using hm), Array.length_toList, Array.getElem?_toList, Array.getElem?_eq_getElem (by omega)]
    rfl
  rw [fm_map key]
  refine List.ext_getElem? fun i => ?_
  by_cases hi : i < xs.size
  · rw [List.getElem?_map, List.getElem?_range hi, Option.map_some, List.getD_eq_getElem?_getD]
    have : i < xs.toList.reverse.length := by simpa using hi
    rw [List.getElem?_eq_getElem this]
    rfl
  · rw [List.getElem?_eq_none (by simp; omega), List.getElem?_eq_none (by simp; omega)]
section
variable {prog : Program} {w : World} {A : Around} {E : Value → Shared → Prop} {s : Shared}
theorem applied_rev {sl : Addr} {vs : Value} {n : Nat} {Q : Int × Int × Nat → Shared → Prop} (hs : s.heap.IsSliceOf sl .none .none vs) (ps : IsPart vs (some (-1)))
    (h : Q ((n : Int) - 1, -1, n) s) : wpAny (model prog w) A (Builtin.Slice.sliceApplied (.ref sl) (pure (n : Int))) Q E s := by
  obtain ⟨os, hos, hcs, hds⟩ := id hs
  unfold Builtin.Slice.sliceApplied Builtin.Slice.sliceFields
  refine wpAny_bind (wpAny_bind (wpAny_field hos hds (x := .none) rfl (wpAny_bind (wpAny_field hos hds (x := .none) rfl (wpAny_bind (wpAny_field hos hds (x := vs) rfl (wpAny_pure ?_)))))))
  refine wpAny_bind (HT.slicePart_ ps ?_)
  show wpAny _ _ (if ((-1 : Int) == 0) = true then _ else _) _ _ s
  rw [if_neg (by decide)]
  refine wpAny_bind (HT.slicePart_ (o := none) .none (wpAny_bind (HT.slicePart_ (o := none) .none (wpAny_bind (wpAny_pure ?_)))))
  show wpAny _ _ (match Builtin.Slice.sliceAdjust none none (-1) (n : Int) with | (lo, hi) => pure (lo, (-1 : Int), Builtin.Slice.slicePlaces lo hi (-1))) _ _ s
  rw [adjust_rev n]
  show wpAny _ _ (pure ((n : Int) - 1, (-1 : Int), Builtin.Slice.slicePlaces ((n : Int) - 1) (-1) (-1))) _ _ s
  rw [places_rev]
  exact wpAny_pure h
theorem getItem_tuple_rev {t sl : Addr} {items : Array Value} {vs : Value} {Q : Value → Shared → Prop} (ht : IsTup s.heap t items) (hs : s.heap.IsSliceOf sl .none .none vs) (ps : IsPart vs (some (-1)))
    (h : Q (.ref s.heap.objs.size) { s with heap := s.heap.push { cls := .type "tuple", data := .seq items.toList.reverse.toArray } })
    (hsz : items.size ≤ sizeLine) : wpAny (model prog w) A (getItem (.ref t) (.ref sl)) Q E s := by
  have htake : sizeOk (.seq items.toList.reverse.toArray) := by
    show items.toList.reverse.toArray.size ≤ sizeLine
    rw [List.size_toArray, List.length_reverse, Array.length_toList]
    exact hsz
  obtain ⟨os, hos, hcs, hds⟩ := id hs
  have hTs : s.TypeIs (.ref sl) "slice" := ⟨os, hos, hcs⟩
  unfold getItem
  try with_reducible refine wpAny_holding ?_
  first | refine wpAny_bind (wpAny_pure ?_) | skip
  refine wpAny_bind (wpAny_sequenceKey ht.typeIs (by decide) ?_)
  refine wpAny_bind (wpAny_callSpecial?_slot (name := Str.ofString "__getitem__") ht.typeIs PyProof.Rows.slot_tuple_getitem
    (wpAny_call_entry PyProof.Rows.slot_tuple_getitem ht.typeIs PyProof.Rows.entry_tuple_getitem ?_ (PyProof.Rows.args_tuple_getitem _ _)))
  show wpAny _ _ (Builtin.Tuple.tupleItemsOf (.ref t) >>= _) _ _ s
  refine wpAny_bind (tupleItemsOf_ ht ?_)
  refine wpAny_bind (wpAny_typeOf hTs ?_)
  rw [if_pos (by decide)]
  refine wpAny_bind (applied_rev hs ps ?_)
  have hno : ¬ (((items.size : Int) - 1 == 0 && (-1 : Int) == 1 && items.size == items.size) = true) := by
    intro q
    rw [Bool.and_eq_true, Bool.and_eq_true] at q
    exact absurd q.1.2 (by decide)
  show wpAny _ _ (if ((items.size : Int) - 1 == 0 && (-1 : Int) == 1 && items.size == items.size) = true then _ else _) _ _ s
  rw [if_neg hno, pick_rev]
  first
    | exact wpAny_bind (m := Builtin.Tuple.tupleExact _) (wpAny_newObj_type (wpAny_pure ⟨_, rfl, wpAny_pure h⟩) htake)
    | exact wpAny_bind (m := Builtin.Tuple.tupleExact _) (wpAny_newObj_type (wpAny_bind (wpAny_pure (wpAny_pure ⟨_, rfl, wpAny_pure h⟩))) htake)
end
section
variable {X : Cx}
def tRevA (K : PySem.W.Frag) (te : TE) : TE := fun σ H Q => te σ H fun x H1 => ∃ a xs, x = .ref a ∧ ((SqL K H1 a xs ∧ ∀ p, H1 p = none → Q (.ref p) (upd H1 p (.lst xs.reverse))) ∨ (SqT K H1 a xs ∧ NewT Q H1 xs.reverse))
theorem pe_revA {e : Expr} {te : TE} {k : Nat} {p1 p2 p3 pos : Pos} (he : PE X e te) : PE X (.Subscript e (.Slice none none (some (.UnaryOp .USub (.Constant (.int 1) k p1) p2)) p3) pos) (tRevA X.K te) := by
  refine ⟨fun pins s σ H Q I h => ?_⟩
  refine Subscript_ (thn (he.run pins s σ H _ I h) fun v s1 ⟨x, H1, I1, r1, q1⟩ => ?_)
  obtain ⟨a, xs, ex, hq⟩ := q1
  subst ex
  cases r1
  have hst : PO X (some (.UnaryOp .USub (.Constant (.int 1) k p1) p2)) (tPart (tUn (rU fun i => .int (-i)) (tC (.int 1)))) := po_some (pe_un un_neg pe_int)
  refine wpAny_Slice (thn (po_none.run pins s1 σ H1 (fun o H2 => o = none ∧ H2 = H1) I1 ⟨rfl, rfl⟩) fun vl s2 ⟨l, H2, I2, pl, el, e2⟩ => ?_)
  subst el e2
  refine thn (po_none.run pins s2 σ H2 (fun o H3 => o = none ∧ H3 = H2) I2 ⟨rfl, rfl⟩) fun vu s3 ⟨u, H3, I3, pu, eu, e3⟩ => ?_
  subst eu e3
  refine thn (hst.run pins s3 σ H3 (fun o H4 => o = some (-1) ∧ H4 = H3) I3 ⟨1, rfl, -1, rfl, rfl, rfl⟩) fun vs s4 ⟨o, H4, I4, ps, eo, e4⟩ => ?_
  subst eo e4
  have I5 : Inv X pins σ H4 { s4 with heap := s4.heap.push { cls := .type "slice", data := .fields #[vl, vu, vs] } } := I4.kept (t' := s4.toks) fun b ob q => Heap.get?_push_of_some _ q
  show wpAny (model X.prog X.w) X.A (subscriptTail e (.Slice none none (some (.UnaryOp .USub (.Constant (.int 1) k p1) p2)) p3) (.ref a) (.ref s4.heap.objs.size)) (EP X pins σ Q) X.xe { s4 with heap := s4.heap.push { cls := .type "slice", data := .fields #[vl, vu, vs] } }
  rcases hq with ⟨hx, q⟩ | ⟨hx, q⟩
  · obtain ⟨its, r, ht, hz⟩ := I5.list hx
    have hlen := r.length
    refine tail_any (ops := [.ref a, .ref s4.heap.objs.size]) ht.isList.typeIs (PySem.slot_list_getitem.lookup) ?_ (by with_unfolding_all rfl)
    refine wpAny_getItem_list_slice ht.isList (Heap.IsSliceOf.new _ vl vu vs) pl pu ps (by decide) ?_ (by rw [List.size_toArray]; omega)
    rw [PySem.W.krv_pick]
    refine ⟨.ref _, _, I5.laid (t' := s4.toks) (o := .lst xs.reverse) (fun b ob q => Heap.get?_push_of_some _ q) (Nat.le_refl _) ?_, rfl, q _ (I5.hok.fresh (Nat.le_refl _))⟩
    exact ⟨by rw [List.length_reverse]; exact hz, _, 0, r.reverse, Heap.get?_push_size _ rfl⟩
  · obtain ⟨its, r, ht, hz⟩ := I5.tuple hx
    have hlen := r.length
    cases pl
    cases pu
    refine tail_any (ops := [.ref a, .ref s4.heap.objs.size]) ht.typeIs (PyProof.Rows.slot_tuple_getitem.lookup) ?_ (by with_unfolding_all rfl)
    refine getItem_tuple_rev ht (Heap.IsSliceOf.new _ .none .none vs) ps ?_ (by rw [List.size_toArray]; omega)
    exact fresh_tup I5 r.reverse (by rw [List.length_reverse]; exact hz) rfl rfl rfl rfl q
end
end Tr
set_option Elab.async false
set_option linter.all false
set_option maxRecDepth 100000
set_option maxHeartbeats 2000000
namespace Tr
open PySem PySem.Spec PyProof.Rows L2
/-- a lambda's words -/
structure LamK where
  params : Arguments
  body : Expr
  scope : Scope
/-- the object at f is the lambda k, its code object at c, its cells cl -/
def LamO (f c : Addr) (k : LamK) (q : Str) (cl : List (Str × Addr)) : HO := .ext fun h => ∃ (od : Option Addr) (sl : Array (Option Value)) (pm ctv : Value), h.get? f = some (⟨.type "function", od, .func (PySem.W.kla_fn "<lambda>" q k.params k.body k.scope cl pm (.ref c) ctv), sl⟩ : Obj)
theorem lamO_ne {f c : Addr} {k : LamK} {q : Str} {cl : List (Str × Addr)} (ps : Array Value) : LamO f c k q cl ≠ .tbl ps := fun z => by
  unfold LamO at z
  cases z
theorem lamO_at {P : Program} {w : World} {H : Hp} {h : Heap} {f c : Addr} {k : LamK} {q : Str} {cl : List (Str × Addr)} (hok : HOk P w H h) (e : H f = some (LamO f c k q cl)) :
    ∃ (od : Option Addr) (sl : Array (Option Value)) (pm ctv : Value), h.get? f = some (⟨.type "function", od, .func (PySem.W.kla_fn "<lambda>" q k.params k.body k.scope cl pm (.ref c) ctv), sl⟩ : Obj) := (hok f _ e).1
section
variable {X : Cx} {pins : List (Addr × Obj)} {σ : L2.St} {H : Hp} {s : Shared}
theorem inv_lam {k : LamK} {q : Str} {cl : List (Str × Addr)} {c' : Addr} {pm ctv : Value} {t' : Nat} (I : Inv X pins σ H s) :
    Inv X pins σ (upd H s.heap.objs.size (LamO s.heap.objs.size c' k q cl)) { s with heap := s.heap.push (PySem.W.kla_obj "<lambda>" q k.params k.body k.scope cl pm c' ctv), toks := t' } := by
  refine I.laid (a := s.heap.objs.size) (fun b u e => Heap.get?_push_of_some _ e) (Nat.le_refl _) ?_
  have e := Heap.get?_push_size s.heap (o := PySem.W.kla_obj "<lambda>" q k.params k.body k.scope cl pm c' ctv) rfl
  exact ⟨⟨_, _, pm, ctv, e⟩, ⟨_, e⟩, fun h1 h2 ⟨od, sl, p, t, z⟩ st => ⟨od, sl, p, t, st _ z⟩⟩
/-- the lambda is made: its code object is new, or found in the table -/
theorem lam_make3 {T : List (Addr × Str)} {c P : Addr} {params : Arguments} {body : Expr} {scope : Scope} {pos : Pos} {E : Value → Shared → Prop} {Q : Value → Shared → Prop} (I : Inv X pins σ H s) (TB : LamX.TabB X.base X.mg c P) (hcode : X.env.code = .ref c)
    (hm : (P, X.env.qual ++ "<lambda>") ∈ T) (hu : ∀ p ∈ T, p.1 = P → p.2 = X.env.qual ++ "<lambda>") (hT : LamX.Tabs T H) (hdef : defaultsOf params X.env = ([], [])) (hfree : ∀ y ∈ scope.names, y.2 = .free → ∃ c, X.env.cells.lookup y.1 = some c)
    (h : ∀ (f c' : Addr) (H1 : Hp) (s' : Shared), Inv X pins σ H1 s' → LamX.ExtN H H1 → (∀ b, H1 b = none → H b = none) → LamX.Tabs T H1 → H f = none →
      H1 f = some (LamO f c' ⟨params, body, scope⟩ (X.env.qual ++ "<lambda>") (cloFrom X.env.cells scope.names [])) → H1 c' = some (LamX.CodeO c' (X.env.qual ++ "<lambda>")) → Q (.ref f) s') :
    wpAny (model X.prog X.w) X.A (eval (.Lambda params body scope pos) X.env) Q E s := by
  obtain ⟨ts, hP, ht, ha⟩ := hT _ hm
  refine PySem.W.kla_eval hdef ?_
  have bP : s.heap.BuiltinsAt X.mg P := TB.bm.keeps I.bk
  have hP' : s.heap.get? P = some { cls := .none, data := .fields ts } := I.hok P _ hP
  cases hc : codeAmong pos ts.toList with
  | none =>
    refine PySem.W.kla_makeFunction (mg := X.mg) (c := c) (P := P) (ps := ts) (closure_ok hfree) I.ok.glob (I.mod.glob.keeps I.bk) hcode (TB.code.keeps I.bk) hP' ht hc TB.gP bP fun c' ctv h' tk hx hge hlt hrec htb => ?_
    obtain ⟨c2, oc, vs, t, e2, hoc, hd, hv⟩ := hrec
    cases e2
    have nC : H c' = none := I.hok.fresh hge
    have I1 := LamX.inv_table (t' := tk) (more := #[rawInt pos.line, rawInt pos.col, .ref c']) (h' := h') I hP (fun b o hb e => hx b o hb e) htb hge ⟨oc, vs, t, hoc, hd, hv⟩
    have hE : LamX.ExtN H (upd (upd H P (.tbl (ts ++ #[rawInt pos.line, rawInt pos.col, .ref c']))) c' (LamX.CodeO c' (X.env.qual ++ "<lambda>"))) := fun b o e n => by
      rw [upd_ne (ne_of_none e nC), upd_ne (fun z => n ts (Option.some.inj (e.symm.trans (by rw [z]; exact hP))))]
      exact e
    have eL : (ts ++ #[rawInt pos.line, rawInt pos.col, .ref c']).toList = ts.toList ++ [rawInt pos.line, rawInt pos.col, .ref c'] := by simp
    have T1 : LamX.Tabs T (upd (upd H P (.tbl (ts ++ #[rawInt pos.line, rawInt pos.col, .ref c']))) c' (LamX.CodeO c' (X.env.qual ++ "<lambda>"))) := fun p hp => by
      by_cases hb : p.1 = P
      · rw [hu p hp hb, hb]
        refine ⟨_, by rw [upd_ne (ne_of_none hP nC), upd_same], by rw [eL]; exact PySem.TriplesOk_snoc _ _ _ _ ht, fun p' cv hcv => ?_⟩
        rw [eL] at hcv
        rcases LamX.among_app _ ht hcv with z | z
        · obtain ⟨c0, e1, e2⟩ := ha p' cv z
          exact ⟨c0, e1, hE _ _ e2 LamX.codeO_ne⟩
        · exact ⟨c', z, upd_same⟩
      · obtain ⟨ps', a1, a2, a3⟩ := hT p hp
        refine ⟨ps', by rw [upd_ne (ne_of_none a1 nC), upd_ne hb]; exact a1, a2, fun p' cv hcv => ?_⟩
        obtain ⟨c0, e1, e2⟩ := a3 p' cv hcv
        exact ⟨c0, e1, hE _ _ e2 LamX.codeO_ne⟩
    have nF := I1.hok.fresh (Nat.le_refl _)
    have I2 := inv_lam (k := ⟨params, body, scope⟩) (q := X.env.qual ++ "<lambda>") (cl := cloFrom X.env.cells scope.names []) (c' := c') (pm := (X.mg "__name__").getD .none) (ctv := ctv) (t' := tk) I1
    refine h h'.objs.size c' _ _ I2 (fun b o e n => ?_) (fun b e => NdefX.upd_none (NdefX.upd_none (NdefX.upd_none e))) (T1.ext fun b o e => ?_) (I.hok.fresh (Nat.le_trans hge (Nat.le_of_lt hlt))) upd_same ?_
    · have e1 := hE b o e n
      exact (upd_ne (ne_of_none e1 nF)).trans e1
    · exact (upd_ne (ne_of_none e nF)).trans e
    · exact (upd_ne (Nat.ne_of_lt hlt)).trans upd_same
  | some cv =>
    obtain ⟨c', e, hco⟩ := ha pos cv hc
    subst e
    refine PySem.W.kla_makeFunctionHit (mg := X.mg) (c := c) (P := P) (ps := ts) (closure_ok hfree) I.ok.glob (I.mod.glob.keeps I.bk) hcode (TB.code.keeps I.bk) hP' ht hc bP fun ctv h' tk hx hsz => ?_
    have I1 : Inv X pins σ H { s with heap := h', toks := tk } := I.kept hx
    have nF : H h'.objs.size = none := I1.hok.fresh (Nat.le_refl _)
    have I2 := inv_lam (k := ⟨params, body, scope⟩) (q := X.env.qual ++ "<lambda>") (cl := cloFrom X.env.cells scope.names []) (c' := c') (pm := (X.mg "__name__").getD .none) (ctv := ctv) (t' := tk) I1
    refine h h'.objs.size c' _ _ I2 (fun b o e n => ?_) (fun b e => NdefX.upd_none e) (hT.ext fun b o e => ?_) nF upd_same ?_
    · exact (upd_ne (ne_of_none e nF)).trans e
    · exact (upd_ne (ne_of_none e nF)).trans e
    · exact (upd_ne (ne_of_none hco nF)).trans hco
end
/-- the object at a is oc -/
def CelO (a : Addr) (oc : Obj) : HO := .frz oc (.ext fun h => ∃ o, h.get? a = some o)
def addC (H : Hp) (B : List (Addr × Obj)) : Hp := fun a => match B.lookup a with
  | some oc => some (CelO a oc)
  | none => H a
def dropC (H : Hp) (B : List (Addr × Obj)) : Hp := fun a => match B.lookup a with
  | some _ => none
  | none => H a
theorem addC_in {H : Hp} {B : List (Addr × Obj)} {a : Addr} {oc : Obj} (h : B.lookup a = some oc) : addC H B a = some (CelO a oc) := by unfold addC; rw [h]
theorem addC_out {H : Hp} {B : List (Addr × Obj)} {a : Addr} (h : B.lookup a = none) : addC H B a = H a := by unfold addC; rw [h]
theorem dropC_in {H : Hp} {B : List (Addr × Obj)} {a : Addr} {oc : Obj} (h : B.lookup a = some oc) : dropC H B a = none := by unfold dropC; rw [h]
theorem dropC_out {H : Hp} {B : List (Addr × Obj)} {a : Addr} (h : B.lookup a = none) : dropC H B a = H a := by unfold dropC; rw [h]
theorem celO_ok {P : Program} {w : World} {H : Hp} {h : Heap} {a : Addr} {oc : Obj} (e : h.get? a = some oc) : ObjOk P w H h a (CelO a oc) :=
  ⟨e, ⟨_, e⟩, ⟨_, e⟩, fun h1 h2 ⟨o, z⟩ st => ⟨o, st o z⟩⟩
section
variable {P : Program} {w : World} {K : PySem.W.Frag} {mg : Str → Option Value} {base : Heap} {A : Around} {outer : List Env} {s : Shared} {H : Hp} {B : List (Addr × Obj)}
/-- untracked objects that are known -/
def FreeC (base : Heap) (outer : List Env) (H : Hp) (h : Heap) (B : List (Addr × Obj)) : Prop := ∀ a oc, B.lookup a = some oc → h.get? a = some oc ∧ H a = none ∧ base.get? a = none ∧ a ∉ frs outer
theorem env_add (e : Env0 P w K mg base A outer s H) (f : FreeC base outer H s.heap B) : Env0 P w K mg base A outer s (addC H B) := by
  refine ⟨e.frames, e.mod, fun b o h => ⟨(e.bs b o h).1, ?_⟩, e.bsz, e.funs, fun b hb => ?_, fun a o h => ?_, e.bare⟩
  · cases q : B.lookup b with
    | none => rw [addC_out q]; exact (e.bs b o h).2
    | some oc =>
      have := (f b oc q).2.2.1
      rw [h] at this
      cases this
  · cases q : B.lookup b with
    | none => rw [addC_out q]; exact e.frf b hb
    | some oc => exact absurd hb (f b oc q).2.2.2
  · cases q : B.lookup a with
    | some oc =>
      rw [addC_in q] at h
      cases h
      exact celO_ok (f a oc q).1
    | none =>
      rw [addC_out q] at h
      refine (e.hok a o h).stay (fun b u _ z => z) (fun b z => ?_) fun b xs z => ?_
      · cases q2 : B.lookup b with
        | none => rw [addC_out q2]; exact z
        | some oc => rw [(f b oc q2).2.1] at z; cases z
      · cases q2 : B.lookup b with
        | none => rw [addC_out q2]; exact z
        | some oc => rw [(f b oc q2).2.1] at z; cases z
/-- behind a call that was told of the cells, they are let go -/
theorem ce_drop {Q Q' : VK} {u : Value} {s' : Shared} (f : ∀ a oc, B.lookup a = some oc → s.heap.get? a = some oc ∧ H a = none) (c : CE outer P w (addC H B) s Q' u s') (hq : ∀ v H', (∀ a oc, B.lookup a = some oc → H' a = some (CelO a oc)) → Q' v H' → Q v (dropC H' B)) : CE outer P w H s Q u s' := by
  obtain ⟨v, H', os, bare, un, hok, rv, q⟩ := c
  have hc : ∀ a oc, B.lookup a = some oc → H' a = some (CelO a oc) := fun a oc h => un.frzs a oc _ (addC_in h)
  have nt : ∀ b o, H b = some o → B.lookup b = none := fun b o e => by
    cases q2 : B.lookup b with
    | none => rfl
    | some oc => rw [(f b oc q2).2] at e; cases e
  refine ⟨v, dropC H' B, os, bare, ⟨fun b o e1 e2 e3 e4 => ?_, fun b o e1 e2 e3 e4 => ?_, fun b o e1 e2 e3 => ?_, un.there, fun b xs e => ?_, fun b o u e => ?_, fun b ps e => ?_⟩, fun a o h => ?_, rv, hq v H' hc q⟩
  · cases q2 : B.lookup b with
    | none => exact un.keep b o e1 (by rw [addC_out q2]; exact e2) e3 e4
    | some oc =>
      have := (hok b _ (hc b oc q2)).1
      rw [(f b oc q2).1] at e1
      cases e1
      exact this
  · cases q2 : B.lookup b with
    | none => exact un.slot b o e1 (by rw [addC_out q2]; exact e2) e3 e4
    | some oc =>
      have := (hok b _ (hc b oc q2)).1
      rw [(f b oc q2).1] at e1
      cases e1
      exact ⟨o.slots, this⟩
  · cases q2 : B.lookup b with
    | none => rw [dropC_out q2]; exact un.free b o e1 (by rw [addC_out q2]; exact e2) e3
    | some oc => exact dropC_in q2
  · rw [dropC_out (nt b _ e)]
    exact un.tups b xs (by rw [addC_out (nt b _ e)]; exact e)
  · rw [dropC_out (nt b _ e)]
    exact un.frzs b o u (by rw [addC_out (nt b _ e)]; exact e)
  · rw [dropC_out (nt b _ e)]
    exact un.tbls b ps (by rw [addC_out (nt b _ e)]; exact e)
  · cases q2 : B.lookup a with
    | some oc => rw [dropC_in q2] at h; cases h
    | none =>
      rw [dropC_out q2] at h
      refine (hok a o h).stay (fun b u _ z => z) (fun b z => ?_) fun b xs z => ?_
      · cases q3 : B.lookup b with
        | none => rw [dropC_out q3]; exact z
        | some oc => rw [hc b oc q3] at z; cases z
      · cases q3 : B.lookup b with
        | none => rw [dropC_out q3]; exact z
        | some oc => rw [hc b oc q3] at z; cases z
end
end Tr
set_option Elab.async false
set_option linter.all false
set_option maxRecDepth 100000
namespace Tr
open PySem PySem.Spec PyProof.Rows L2
/-- a dict that one name alone holds: its keys are ints and texts, or tuples of them -/
inductive Dm where
  | k (kvs : List (Key × PyData))
  | t (kvs : List (List Int × PyData))
  deriving Inhabited
/-- a value as a tree: frozen data, a list that one name alone holds, the script -/
inductive Tv where
  | d (x : PyData)
  | own (xs : List Tv)
  | scr (ns : List Int)
  | fn (k : LamK) (caps : List (Str × PyData))
  | map (m : Dm)
  deriving Inhabited
mutual
def Tv.frz : Tv → Option PyData
  | .d x => some x
  | .own xs => match frzs xs with
    | some ds => some (.list ds)
    | none => none
  | .scr _ => none
  | .fn _ _ => none
  | .map _ => none
def frzs : List Tv → Option (List PyData)
  | [] => some []
  | x :: xs => match x.frz, frzs xs with
    | some d, some ds => some (d :: ds)
    | _, _ => none
end
/-- a key as data -/
def kD : Key → PyData
  | .inl i => .int i
  | .inr x => .str x
def kvD (p : Key × PyData) : PyData × PyData := (kD p.1, p.2)
mutual
inductive Dq (G : Hp) : V → PyData → Prop
  | non : Dq G .non .none
  | bl (b : Bool) : Dq G (.bl b) (.bool b)
  | int (i : Int) : Dq G (.int i) (.int i)
  | str (x : Str) : Dq G (.str x) (.str x)
  | lst {a : Addr} {xs : List V} {ds : List PyData} : G a = some (.lst xs) → DqAll G xs ds → Dq G (.ref a) (.list ds)
  | tup {a : Addr} {xs : List V} {ds : List PyData} : TupG G a xs → DqAll G xs ds → Dq G (.ref a) (.tuple ds)
  | dct {a : Addr} {vs : List (Key × V)} {kvs : List (Key × PyData)} : G a = some (.dK vs) → vs.map (·.1) = kvs.map (·.1) → DqAll G (vs.map (·.2)) (kvs.map (·.2)) → Dq G (.ref a) (.dict (kvs.map kvD))
inductive DqAll (G : Hp) : List V → List PyData → Prop
  | nil : DqAll G [] []
  | cons {v : V} {vs : List V} {d : PyData} {ds : List PyData} : Dq G v d → DqAll G vs ds → DqAll G (v :: vs) (d :: ds)
end
/-- v is a function: the lambda k; what it captured is told, its cells do not change -/
def FnC (G : Hp) (k : LamK) (caps : List (Str × PyData)) (v : V) : Prop := ∃ (f c : Addr) (q : Str) (cl : List (Str × Addr)) (B : List (Addr × Obj)), v = .ref f ∧ G f = some (LamO f c k q cl) ∧ G c = some (LamX.CodeO c q) ∧
  (∀ a oc, B.lookup a = some oc → G a = some (CelO a oc)) ∧ (∀ y a, cl.lookup y = some a → ∃ oc u, B.lookup a = some oc ∧ oc.data = .cell u) ∧ (∀ x y a, cl.lookup x = some a → cl.lookup y = some a → x = y) ∧
  ∀ p ∈ caps, ∃ a oc u z, cl.lookup p.1 = some a ∧ B.lookup a = some oc ∧ oc.data = .cell (some u) ∧ RelV z u ∧ Dq G z p.2
/-- the entries of a dict whose keys are tuples of ints -/
def TEnt (es : Array DictEntry) (xs : List (List Int × Addr × Value)) : Prop := ∀ (P : Program) (w : World), es.toList = xs.map (entryOfKey (PySem.tupleKind (PySem.intKind P w)))
/-- a dict's object shows it -/
inductive DmOk (G : Hp) : Dm → HO → Prop
  | k {kvs : List (Key × PyData)} {vs : List (Key × V)} : vs.map (·.1) = kvs.map (·.1) → DqAll G (vs.map (·.2)) (kvs.map (·.2)) → DmOk G (.k kvs) (.dK vs)
  | t {kvs : List (List Int × PyData)} {xs : List (List Int × Addr × Value)} {vs : List V} {o : Obj} {u : HO} {es : Array DictEntry} {ep : Nat} : o.ExactDict → o.data = .dict es ep → TEnt es xs → (xs.map (·.1)).Nodup →
      (∀ x ∈ xs, TupG G x.2.1 (x.1.map V.int)) → xs.map (·.1) = kvs.map (·.1) → Vals vs (xs.map (·.2.2)) → DqAll G vs (kvs.map (·.2)) → DmOk G (.t kvs) (.frz o u)
/-- what a name alone can hold -/
inductive OwnO : HO → Prop
  | lst (vs : List V) : OwnO (.lst vs)
  | dK (vs : List (Key × V)) : OwnO (.dK vs)
  | frz (o : Obj) (u : HO) : OwnO (.frz o u)
theorem DmOk.own {G : Hp} {m : Dm} {o : HO} (h : DmOk G m o) : OwnO o := by
  cases h
  · exact .dK _
  · exact .frz _ _
mutual
inductive OR (K : PySem.W.Frag) (G H : Hp) : Tv → V → List Addr → Prop
  | d {x : PyData} {v : V} : Dq G v x → OR K G H (.d x) v []
  | own {a : Addr} {xs : List Tv} {vs : List V} {L : List Addr} : H a = some (.lst vs) → G a = none → ORs K G H xs vs L → OR K G H (.own xs) (.ref a) (a :: L)
  | scr {a : Addr} {ns : List Int} : SqL K G a (ns.map V.int) → OR K G H (.scr ns) (.ref a) []
  | fn {k : LamK} {caps : List (Str × PyData)} {v : V} : FnC G k caps v → OR K G H (.fn k caps) v []
  | map {a : Addr} {m : Dm} {o : HO} : H a = some o → G a = none → DmOk G m o → OR K G H (.map m) (.ref a) [a]
inductive ORs (K : PySem.W.Frag) (G H : Hp) : List Tv → List V → List Addr → Prop
  | nil : ORs K G H [] [] []
  | cons {x : Tv} {v : V} {xs : List Tv} {vs : List V} {L M : List Addr} : OR K G H x v L → ORs K G H xs vs M → ORs K G H (x :: xs) (v :: vs) (L ++ M)
end
section
variable {K : PySem.W.Frag} {G G' H H' : Hp}
mutual
theorem Dq.grow (g : Same G G') : ∀ {v : V} {x : PyData}, Dq G v x → Dq G' v x
  | _, _, .non => .non
  | _, _, .bl b => .bl b
  | _, _, .int i => .int i
  | _, _, .str z => .str z
  | _, _, .lst hs ha => .lst (g _ _ hs) (DqAll.grow g ha)
  | _, _, .tup hs ha => .tup (hs.imp fun _ z => ⟨g _ _ z.1, z.2⟩) (DqAll.grow g ha)
  | _, _, .dct hs e ha => .dct (g _ _ hs) e (DqAll.grow g ha)
theorem DqAll.grow (g : Same G G') : ∀ {vs : List V} {xs : List PyData}, DqAll G vs xs → DqAll G' vs xs
  | _, _, .nil => .nil
  | _, _, .cons h t => .cons (Dq.grow g h) (DqAll.grow g t)
end
theorem FnC.grow {k : LamK} {caps : List (Str × PyData)} {v : V} (g : Same G G') (h : FnC G k caps v) : FnC G' k caps v := by
  obtain ⟨f, c, q, cl, B, e, h1, h2, h3, h4, h5, h6⟩ := h
  exact ⟨f, c, q, cl, B, e, g _ _ h1, g _ _ h2, fun a oc z => g _ _ (h3 a oc z), h4, h5, fun p hp => by
    obtain ⟨a, oc, u, z, e1, e2, e3, e4, e5⟩ := h6 p hp
    exact ⟨a, oc, u, z, e1, e2, e3, e4, Dq.grow g e5⟩⟩
theorem DmOk.grow (g : Same G G') {m : Dm} {o : HO} (h : DmOk G m o) : DmOk G' m o := by
  cases h with
  | k e d => exact .k e (d.grow g)
  | t h1 h2 h3 h4 h5 h6 h7 h8 => exact .t h1 h2 h3 h4 (fun x hx => (h5 x hx).grow g) h6 h7 (h8.grow g)
theorem DqAll.length : ∀ {vs : List V} {xs : List PyData}, DqAll G vs xs → vs.length = xs.length
  | _, _, .nil => rfl
  | _, _, .cons _ t => by simp [DqAll.length t]
theorem DqAll.get : ∀ {vs : List V} {xs : List PyData} {i : Nat} {x : PyData}, DqAll G vs xs → xs[i]? = some x → ∃ v, vs[i]? = some v ∧ Dq G v x
  | _, _, _, _, .nil, e => by simp at e
  | _, _, 0, _, .cons h t, e => by simp at e; subst e; exact ⟨_, rfl, h⟩
  | _, _, i + 1, _, .cons h t, e => by
    obtain ⟨v, h1, h2⟩ := DqAll.get (i := i) t (by simpa using e)
    exact ⟨v, by simpa using h1, h2⟩
theorem ORs.length : ∀ {xs : List Tv} {vs : List V} {L : List Addr}, ORs K G H xs vs L → xs.length = vs.length
  | _, _, _, .nil => rfl
  | _, _, _, .cons _ t => by simp [ORs.length t]
theorem ORs.get : ∀ {xs : List Tv} {vs : List V} {L : List Addr} {i : Nat} {x : Tv}, ORs K G H xs vs L → xs[i]? = some x → ∃ v M, vs[i]? = some v ∧ OR K G H x v M ∧ ∀ a ∈ M, a ∈ L
  | _, _, _, _, _, .nil, e => by simp at e
  | _, _, _, 0, _, .cons h t, e => by simp at e; subst e; exact ⟨_, _, rfl, h, fun a ha => List.mem_append_left _ ha⟩
  | _, _, _, i + 1, _, .cons h t, e => by
    obtain ⟨v, M, h1, h2, h3⟩ := ORs.get (i := i) t (by simpa using e)
    exact ⟨v, M, by simpa using h1, h2, fun a ha => List.mem_append_right _ (h3 a ha)⟩
mutual
/-- the objects at L stand, the frozen heap grows -/
theorem OR.step (g : Same G G') : ∀ {x : Tv} {v : V} {L : List Addr}, OR K G H x v L → (∀ a ∈ L, H' a = H a) → (∀ a ∈ L, G' a = none) → OR K G' H' x v L
  | _, _, _, .d h, _, _ => .d (Dq.grow g h)
  | _, _, _, .own h n r, k, f => .own (by rw [k _ List.mem_cons_self]; exact h) (f _ List.mem_cons_self)
      (ORs.step g r (fun a ha => k a (List.mem_cons_of_mem _ ha)) fun a ha => f a (List.mem_cons_of_mem _ ha))
  | _, _, _, .scr h, _, _ => .scr (g.seq h)
  | _, _, _, .fn h, _, _ => .fn (h.grow g)
  | _, _, _, .map h n m, k, f => .map (by rw [k _ List.mem_cons_self]; exact h) (f _ List.mem_cons_self) (m.grow g)
theorem ORs.step (g : Same G G') : ∀ {xs : List Tv} {vs : List V} {L : List Addr}, ORs K G H xs vs L → (∀ a ∈ L, H' a = H a) → (∀ a ∈ L, G' a = none) → ORs K G' H' xs vs L
  | _, _, _, .nil, _, _ => .nil
  | _, _, _, .cons h t, k, f => .cons (OR.step g h (fun a ha => k a (List.mem_append_left _ ha)) fun a ha => f a (List.mem_append_left _ ha))
      (ORs.step g t (fun a ha => k a (List.mem_append_right _ ha)) fun a ha => f a (List.mem_append_right _ ha))
end
mutual
theorem OR.there : ∀ {x : Tv} {v : V} {L : List Addr}, OR K G H x v L → ∀ a ∈ L, (∃ o, H a = some o) ∧ G a = none
  | _, _, _, .map h n _, a, ha => by
    have e := List.mem_singleton.mp ha
    subst e
    exact ⟨⟨_, h⟩, n⟩
  | _, _, _, .d _, a, h => absurd h (by simp)
  | _, _, _, .scr _, a, h => absurd h (by simp)
  | _, _, _, .fn _, a, h => absurd h (by simp)
  | _, _, _, .own h n r, a, ha => by
    rcases List.mem_cons.mp ha with e | ha
    · subst e; exact ⟨⟨_, h⟩, n⟩
    · exact ORs.there r a ha
theorem ORs.there : ∀ {xs : List Tv} {vs : List V} {L : List Addr}, ORs K G H xs vs L → ∀ a ∈ L, (∃ o, H a = some o) ∧ G a = none
  | _, _, _, .nil, a, h => absurd h (by simp)
  | _, _, _, .cons h t, a, ha => by
    rcases List.mem_append.mp ha with ha | ha
    · exact OR.there h a ha
    · exact ORs.there t a ha
end
mutual
/-- what is owned are lists and dicts -/
theorem OR.list : ∀ {x : Tv} {v : V} {L : List Addr}, OR K G H x v L → ∀ a ∈ L, ∃ o, H a = some o ∧ OwnO o
  | _, _, _, .map h n m, a, ha => by
    have e := List.mem_singleton.mp ha
    subst e
    exact ⟨_, h, m.own⟩
  | _, _, _, .d _, a, h => absurd h (by simp)
  | _, _, _, .scr _, a, h => absurd h (by simp)
  | _, _, _, .fn _, a, h => absurd h (by simp)
  | _, _, _, .own h n r, a, ha => by
    rcases List.mem_cons.mp ha with e | ha
    · subst e; exact ⟨_, h, .lst _⟩
    · exact ORs.list r a ha
theorem ORs.list : ∀ {xs : List Tv} {vs : List V} {L : List Addr}, ORs K G H xs vs L → ∀ a ∈ L, ∃ o, H a = some o ∧ OwnO o
  | _, _, _, .nil, a, h => absurd h (by simp)
  | _, _, _, .cons h t, a, ha => by
    rcases List.mem_append.mp ha with ha | ha
    · exact OR.list h a ha
    · exact ORs.list t a ha
end
theorem frz_own {xs : List Tv} {d : PyData} (h : (Tv.own xs).frz = some d) : ∃ ds, frzs xs = some ds ∧ d = .list ds := by
  rw [Tv.frz] at h
  split at h
  · rename_i ds e
    exact ⟨ds, e, (Option.some.inj h).symm⟩
  · cases h
theorem frzs_cons {x : Tv} {xs : List Tv} {ds : List PyData} (h : frzs (x :: xs) = some ds) : ∃ d es, x.frz = some d ∧ frzs xs = some es ∧ ds = d :: es := by
  rw [frzs] at h
  split at h
  · rename_i d es e1 e2
    exact ⟨d, es, e1, e2, (Option.some.inj h).symm⟩
  · cases h
mutual
/-- what a tree shows, read off the heap as it stands -/
theorem OR.now (g : Same G H) : ∀ {x : Tv} {v : V} {L : List Addr} {d : PyData}, OR K G H x v L → x.frz = some d → Dq H v d
  | _, _, _, _, .d h, e => by
    rw [Tv.frz] at e; cases e
    exact Dq.grow g h
  | _, _, _, _, .own h n r, e => by
    obtain ⟨ds, e1, rfl⟩ := frz_own e
    exact .lst h (ORs.now g r e1)
  | _, _, _, _, .scr _, e => by rw [Tv.frz] at e; cases e
  | _, _, _, _, .fn _, e => by rw [Tv.frz] at e; cases e
  | _, _, _, _, .map _ _ _, e => by rw [Tv.frz] at e; cases e
theorem ORs.now (g : Same G H) : ∀ {xs : List Tv} {vs : List V} {L : List Addr} {ds : List PyData}, ORs K G H xs vs L → frzs xs = some ds → DqAll H vs ds
  | _, _, _, _, .nil, e => by
    rw [frzs] at e; cases e
    exact .nil
  | _, _, _, _, .cons h t, e => by
    obtain ⟨d, es, e1, e2, rfl⟩ := frzs_cons e
    exact .cons (OR.now g h e1) (ORs.now g t e2)
end
/-- the frozen heap with the objects at L -/
def freeze (G H : Hp) (L : List Addr) : Hp := fun a => if a ∈ L then H a else G a
theorem freeze_same (g : Same G H) {L : List Addr} : Same (freeze G H L) H := fun a o e => by
  unfold freeze at e
  split at e
  · exact e
  · exact g a o e
theorem freeze_grow {L : List Addr} (h : ∀ a ∈ L, G a = none) : Same G (freeze G H L) := fun a o e => by
  unfold freeze
  rw [if_neg]
  · exact e
  · intro ha
    rw [h a ha] at e
    cases e
theorem freeze_out {L : List Addr} {a : Addr} (h : a ∉ L) : freeze G H L a = G a := by unfold freeze; rw [if_neg h]
theorem freeze_in {L : List Addr} {a : Addr} (h : a ∈ L) : freeze G H L a = H a := by unfold freeze; rw [if_pos h]
mutual
theorem OR.frozen {M : List Addr} (hM : ∀ a ∈ M, G a = none) : ∀ {x : Tv} {v : V} {L : List Addr} {d : PyData}, OR K G H x v L → x.frz = some d → (∀ a ∈ L, a ∈ M) → Dq (freeze G H M) v d
  | _, _, _, _, .d h, e, _ => by
    rw [Tv.frz] at e; cases e
    exact Dq.grow (freeze_grow hM) h
  | _, _, _, _, .own h n r, e, k => by
    obtain ⟨ds, e1, rfl⟩ := frz_own e
    exact .lst (by rw [freeze_in (k _ List.mem_cons_self)]; exact h) (ORs.frozen hM r e1 fun a ha => k a (List.mem_cons_of_mem _ ha))
  | _, _, _, _, .scr _, e, _ => by rw [Tv.frz] at e; cases e
  | _, _, _, _, .fn _, e, _ => by rw [Tv.frz] at e; cases e
  | _, _, _, _, .map _ _ _, e, _ => by rw [Tv.frz] at e; cases e
theorem ORs.frozen {M : List Addr} (hM : ∀ a ∈ M, G a = none) : ∀ {xs : List Tv} {vs : List V} {L : List Addr} {ds : List PyData}, ORs K G H xs vs L → frzs xs = some ds → (∀ a ∈ L, a ∈ M) → DqAll (freeze G H M) vs ds
  | _, _, _, _, .nil, e, _ => by
    rw [frzs] at e; cases e
    exact .nil
  | _, _, _, _, .cons h t, e, k => by
    obtain ⟨d, es, e1, e2, rfl⟩ := frzs_cons e
    exact .cons (OR.frozen hM h e1 fun a ha => k a (List.mem_append_left _ ha)) (ORs.frozen hM t e2 fun a ha => k a (List.mem_append_right _ ha))
end
abbrev Env' := List (Option Tv)
inductive SR (K : PySem.W.Frag) (G H : Hp) : Env' → L2.St → List Addr → Prop
  | nil : SR K G H [] [] []
  | no {o : Option V} {ρ : Env'} {σ : L2.St} {L : List Addr} : SR K G H ρ σ L → SR K G H (none :: ρ) (o :: σ) L
  | yes {x : Tv} {v : V} {ρ : Env'} {σ : L2.St} {L M : List Addr} : OR K G H x v L → SR K G H ρ σ M → SR K G H (some x :: ρ) (some v :: σ) (L ++ M)
theorem SR.step (g : Same G G') : ∀ {ρ : Env'} {σ : L2.St} {L : List Addr}, SR K G H ρ σ L → (∀ a ∈ L, H' a = H a) → (∀ a ∈ L, G' a = none) → SR K G' H' ρ σ L
  | _, _, _, .nil, _, _ => .nil
  | _, _, _, .no t, k, f => .no (SR.step g t k f)
  | _, _, _, .yes h t, k, f => .yes (OR.step g h (fun a ha => k a (List.mem_append_left _ ha)) fun a ha => f a (List.mem_append_left _ ha))
      (SR.step g t (fun a ha => k a (List.mem_append_right _ ha)) fun a ha => f a (List.mem_append_right _ ha))
theorem SR.there : ∀ {ρ : Env'} {σ : L2.St} {L : List Addr}, SR K G H ρ σ L → ∀ a ∈ L, (∃ o, H a = some o) ∧ G a = none
  | _, _, _, .nil, a, h => absurd h (by simp)
  | _, _, _, .no t, a, ha => SR.there t a ha
  | _, _, _, .yes h t, a, ha => by
    rcases List.mem_append.mp ha with ha | ha
    · exact OR.there h a ha
    · exact SR.there t a ha
theorem SR.length : ∀ {ρ : Env'} {σ : L2.St} {L : List Addr}, SR K G H ρ σ L → ρ.length = σ.length
  | _, _, _, .nil => rfl
  | _, _, _, .no t => by simp [SR.length t]
  | _, _, _, .yes _ t => by simp [SR.length t]
theorem SR.list : ∀ {ρ : Env'} {σ : L2.St} {L : List Addr}, SR K G H ρ σ L → ∀ a ∈ L, ∃ o, H a = some o ∧ OwnO o
  | _, _, _, .nil, a, h => absurd h (by simp)
  | _, _, _, .no t, a, ha => SR.list t a ha
  | _, _, _, .yes h t, a, ha => by
    rcases List.mem_append.mp ha with ha | ha
    · exact OR.list h a ha
    · exact SR.list t a ha
/-- the place i taken out: its own part, the others', and whatever is put there instead -/
theorem SR.at : ∀ {ρ : Env'} {σ : L2.St} {L : List Addr} {i : Nat} {x : Tv}, SR K G H ρ σ L → ρ[i]? = some (some x) →
    ∃ v P M S, L = P ++ M ++ S ∧ σ[i]? = some (some v) ∧ OR K G H x v M ∧
      (∀ {G' H' : Hp} {x' : Tv} {v' : V} {M' : List Addr}, Same G G' → (∀ a ∈ P ++ S, H' a = H a) → (∀ a ∈ P ++ S, G' a = none) → OR K G' H' x' v' M' → SR K G' H' (ρ.set i (some x')) (σ.set i (some v')) (P ++ M' ++ S)) ∧
      (∀ {G' H' : Hp}, Same G G' → (∀ a ∈ P ++ S, H' a = H a) → (∀ a ∈ P ++ S, G' a = none) → ∀ o, SR K G' H' (ρ.set i none) (σ.set i o) (P ++ S))
  | _, _, _, _, _, .nil, e => by simp at e
  | _, _, _, 0, _, .no t, e => by simp at e
  | _, _, _, 0, _, .yes (v := v) (L := L) (M := M) h t, e => by
    simp at e; subst e
    refine ⟨v, [], L, M, rfl, rfl, h, fun {G' H' x' v' M'} g k f q => ?_, fun {G' H'} g k f o => ?_⟩
    · exact .yes q (SR.step g t (fun a ha => k a ha) fun a ha => f a ha)
    · exact .no (SR.step g t (fun a ha => k a ha) fun a ha => f a ha)
  | _, _, _, i + 1, x, .no t, e => by
    obtain ⟨v, P, M, S, e1, e2, h, k1, k2⟩ := SR.at (i := i) t (by simpa using e)
    exact ⟨v, P, M, S, e1, by simpa using e2, h, fun g k f q => .no (k1 g k f q), fun g k f o => .no (k2 g k f o)⟩
  | _, _, _, i + 1, x, .yes (L := L) h0 t, e => by
    obtain ⟨v, P, M, S, e1, e2, h, k1, k2⟩ := SR.at (i := i) t (by simpa using e)
    refine ⟨v, L ++ P, M, S, by rw [e1]; simp, by simpa using e2, h, fun {G' H' x' v' M'} g k f q => ?_, fun {G' H'} g k f o => ?_⟩
    · have := SR.yes (OR.step (H' := H') g h0 (fun a ha => k a (by simp [ha])) fun a ha => f a (by simp [ha])) (k1 g (fun a ha => k a (by rcases List.mem_append.mp ha with h | h <;> simp [h])) (fun a ha => f a (by rcases List.mem_append.mp ha with h | h <;> simp [h])) q)
      simpa [List.append_assoc] using this
    · have := SR.yes (OR.step (H' := H') g h0 (fun a ha => k a (by simp [ha])) fun a ha => f a (by simp [ha])) (k2 g (fun a ha => k a (by rcases List.mem_append.mp ha with h | h <;> simp [h])) (fun a ha => f a (by rcases List.mem_append.mp ha with h | h <;> simp [h])) o)
      simpa [List.append_assoc] using this
/-- an empty place filled -/
theorem SR.fill : ∀ {ρ : Env'} {σ : L2.St} {L : List Addr} {i : Nat}, SR K G H ρ σ L → i < ρ.length →
    ∃ P M S, L = P ++ M ++ S ∧ (∀ {x' : Tv} {v' : V} {M' : List Addr}, OR K G H x' v' M' → SR K G H (ρ.set i (Option.some x')) (σ.set i (Option.some v')) (P ++ M' ++ S)) ∧ (∀ o, SR K G H (ρ.set i Option.none) (σ.set i o) (P ++ S))
  | _, _, _, _, .nil, e => by simp at e
  | _, _, _, 0, .no (L := L) t, e => ⟨[], [], L, rfl, fun q => .yes q t, fun o => .no t⟩
  | _, _, _, 0, .yes (L := L) (M := M) h t, e => ⟨[], L, M, rfl, fun q => .yes q t, fun o => .no t⟩
  | _, _, _, i + 1, .no t, e => by
    obtain ⟨P, M, S, e1, k1, k2⟩ := SR.fill (i := i) t (by simpa using e)
    exact ⟨P, M, S, e1, fun q => .no (k1 q), fun o => .no (k2 o)⟩
  | _, _, _, i + 1, .yes (L := L) h t, e => by
    obtain ⟨P, M, S, e1, k1, k2⟩ := SR.fill (i := i) t (by simpa using e)
    refine ⟨L ++ P, M, S, by rw [e1]; simp, fun {x' v' M'} q => ?_, fun o => ?_⟩
    · have := SR.yes h (k1 q); simpa [List.append_assoc] using this
    · have := SR.yes h (k2 o); simpa [List.append_assoc] using this
theorem OwnO.ne_tbl {o : HO} (h : OwnO o) : ∀ ps, o ≠ .tbl ps := fun ps z => by
  subst z
  cases h
/-- the defs that make lambdas -/
def lamMakers : List Str := ["right_lots", "told_lots", "_law_told_right", "_law_sums_moved", "law"]
/-- the table of code objects of the def of this name -/
def tabOf (K : PySem.W.Frag) (x : Str) : Option Addr := (PySem.W.tabIn K x).map (·.2)
def isSomeSome : Option (Option Value) → Bool
  | some (some _) => true
  | _ => false
def tabsOf (K : PySem.W.Frag) : List (Addr × Str) := lamMakers.filterMap fun x => if isSomeSome (PySem.W.nsIn K mainGlobals x) = true then (tabOf K x).map fun P => (P, (x ++ ".<locals>.") ++ "<lambda>") else none
theorem tabs_upd {T : List (Addr × Str)} {p : Addr} {o : HO} (t : LamX.Tabs T H) (hp : H p = none) : LamX.Tabs T (upd H p o) := t.ext fun b u e => by
  rw [upd_ne (ne_of_none e hp)]
  exact e
theorem tabs_writeO {T : List (Addr × Str)} {a : Addr} {o0 o : HO} (t : LamX.Tabs T H) (ha : H a = some o0) (hw : OwnO o0) : LamX.Tabs T (upd H a o) := fun p hp => by
  obtain ⟨ps, h1, h2, h3⟩ := t p hp
  refine ⟨ps, ?_, h2, fun pos cv hc => ?_⟩
  · rw [upd_ne fun z => by rw [z, ha] at h1; cases h1; cases hw]
    exact h1
  · obtain ⟨c, e1, e2⟩ := h3 pos cv hc
    refine ⟨c, e1, ?_⟩
    rw [upd_ne fun z => by rw [z, ha] at e2; cases e2; cases hw]
    exact e2
theorem tabs_write {T : List (Addr × Str)} {a : Addr} {vs : List V} {o : HO} (t : LamX.Tabs T H) (ha : H a = some (.lst vs)) : LamX.Tabs T (upd H a o) := tabs_writeO t ha (.lst _)
/-- the state: the frame heap F and the frozen heap G stand in H; the places hold the trees ρ; L are the owned objects -/
structure Sta (K : PySem.W.Frag) (F G H : Hp) (ρ : Env') (σ : L2.St) (L : List Addr) : Prop where
  sr : SR K G H ρ σ L
  nd : L.Nodup
  fr : ∀ a ∈ L, F a = none
  fh : Same F H
  gh : Same G H
  tb : LamX.Tabs (tabsOf K) H
  nt : ∀ a ps, F a ≠ some (.tbl ps)
  ng : ∀ a ps, G a ≠ some (.tbl ps)
/-- behind a reading: F stands, G has grown by what F does not hold -/
structure Aft (K : PySem.W.Frag) (F G G' H' : Hp) (ρ' : Env') (σ : L2.St) (L' : List Addr) : Prop where
  st : Sta K F G' H' ρ' σ L'
  gg : Same G G'
  gf : ∀ a, F a ≠ none → G a = none → G' a = none
/-- a value beside the places -/
structure Val (K : PySem.W.Frag) (F G H : Hp) (L : List Addr) (x : Tv) (v : V) (M : List Addr) : Prop where
  r : OR K G H x v M
  nd : M.Nodup
  fr : ∀ a ∈ M, F a = none
  ap : ∀ a ∈ M, a ∉ L
abbrev WE := Env' → (Tv → Env' → Prop) → Prop
def lift (K : PySem.W.Frag) (w : WE) : TE := fun σ H R => ∃ F G ρ L Q, Sta K F G H ρ σ L ∧ w ρ Q ∧
  ∀ x v ρ' G' H' L' M, Aft K F G G' H' ρ' σ L' → Val K F G' H' L' x v M → Q x ρ' → R v H'
theorem Aft.refl {F : Hp} {ρ : Env'} {σ : L2.St} {L : List Addr} (s : Sta K F G H ρ σ L) : Aft K F G G H ρ σ L := ⟨s, Same.refl _, fun _ _ e => e⟩
theorem Aft.trans {F G1 G2 H1 H2 : Hp} {ρ1 ρ2 : Env'} {σ σ1 : L2.St} {L1 L2 : List Addr} (a : Aft K F G G1 H1 ρ1 σ1 L1) (b : Aft K F G1 G2 H2 ρ2 σ L2) : Aft K F G G2 H2 ρ2 σ L2 :=
  ⟨b.st, a.gg.trans b.gg, fun x h1 h2 => b.gf x h1 (a.gf x h1 h2)⟩
theorem Val.pure {F : Hp} {L : List Addr} {x : PyData} {v : V} (h : Dq G v x) : Val K F G H L (.d x) v [] := ⟨.d h, List.nodup_nil, fun _ z => absurd z (by simp), fun _ z => absurd z (by simp)⟩
/-- a value is held while something else runs -/
def hold (F H : Hp) (M : List Addr) : Hp := fun a => if a ∈ M then H a else F a
theorem hold_nt {F H : Hp} {M : List Addr} (n : ∀ a ps, F a ≠ some (.tbl ps)) (h : ∀ a ∈ M, ∃ o, H a = some o ∧ OwnO o) : ∀ a ps, hold F H M a ≠ some (.tbl ps) := fun a ps e => by
  unfold hold at e
  split at e
  · rename_i ha
    obtain ⟨vs, z, w⟩ := h a ha
    rw [z] at e
    cases e
    cases w
  · exact n a ps e
theorem Sta.hold {F : Hp} {ρ : Env'} {σ : L2.St} {L M : List Addr} {x : Tv} {v : V} (s : Sta K F G H ρ σ L) (q : Val K F G H L x v M) : Sta K (hold F H M) G H ρ σ L where
  sr := s.sr
  nd := s.nd
  fr := fun a ha => by
    unfold Tr.hold
    rw [if_neg fun h => q.ap a h ha]
    exact s.fr a ha
  fh := fun a o e => by
    unfold Tr.hold at e
    split at e
    · exact e
    · exact s.fh a o e
  gh := s.gh
  tb := s.tb
  nt := hold_nt s.nt fun a ha => q.r.list a ha
  ng := s.ng
theorem hold_le {F : Hp} {M : List Addr} (h : ∀ a ∈ M, F a = none) : Same F (hold F H M) := fun a o e => by
  unfold hold
  rw [if_neg]
  · exact e
  · intro ha
    rw [h a ha] at e
    cases e
theorem hold_in {F : Hp} {M : List Addr} {a : Addr} (h : a ∈ M) : hold F H M a = H a := by unfold hold; rw [if_pos h]
theorem Sta.weak {F F' : Hp} {ρ : Env'} {σ : L2.St} {L : List Addr} (s : Sta K F' G H ρ σ L) (f : Same F F') : Sta K F G H ρ σ L :=
  ⟨s.sr, s.nd, fun a ha => f.free (s.fr a ha), f.trans s.fh, s.gh, s.tb, fun a ps e => s.nt a ps (f a _ e), s.ng⟩
theorem ne_of_some {F F' : Hp} {a : Addr} (f : Same F F') (h : F a ≠ none) : F' a ≠ none := by
  cases e : F a with
  | none => exact absurd e h
  | some o => rw [f a o e]; exact fun z => by cases z
/-- behind what ran: the held value stands -/
theorem Aft.held {F G1 H1 : Hp} {ρ : Env'} {σ : L2.St} {L L1 M : List Addr} {x : Tv} {v : V} (q : Val K F G H L x v M) (a : Aft K (hold F H M) G G1 H1 ρ σ L1) :
    Aft K F G G1 H1 ρ σ L1 ∧ Val K F G1 H1 L1 x v M := by
  have le : Same F (hold F H M) := hold_le q.fr
  have same : ∀ b ∈ M, H1 b = H b := fun b hb => by
    obtain ⟨⟨o, ho⟩, _⟩ := q.r.there b hb
    have := a.st.fh b o (by rw [hold_in hb]; exact ho)
    rw [this, ho]
  refine ⟨⟨a.st.weak le, a.gg, fun b hb e => a.gf b (ne_of_some le hb) e⟩, q.r.step a.gg same fun b hb => ?_, q.nd, q.fr, fun b hb hl => ?_⟩
  · obtain ⟨⟨o, ho⟩, hn⟩ := q.r.there b hb
    refine a.gf b ?_ hn
    rw [hold_in hb, ho]
    exact fun z => by cases z
  · have := a.st.fr b hl
    obtain ⟨⟨o, ho⟩, _⟩ := q.r.there b hb
    rw [hold_in hb, ho] at this
    cases this
/-- a second value got while the first one was held stands apart from it -/
theorem held_apart {F G1 H1 : Hp} {L L1 M M1 : List Addr} {x y : Tv} {v u : V} (q : Val K F G H L x v M) (q1 : Val K (hold F H M) G1 H1 L1 y u M1) : Val K F G1 H1 L1 y u M1 ∧ ∀ a ∈ M1, a ∉ M := by
  refine ⟨⟨q1.r, q1.nd, fun a ha => (hold_le q.fr).free (q1.fr a ha), q1.ap⟩, fun a h1 h => ?_⟩
  have := q1.fr a h1
  obtain ⟨⟨o, ho⟩, _⟩ := q.r.there a h
  rw [hold_in h, ho] at this
  cases this
theorem PE.imp {X : Cx} {e : Expr} {t t' : TE} (h : PE X e t) (k : ∀ σ H Q, t' σ H Q → t σ H Q) : PE X e t' := ⟨fun pins s σ H Q I q => h.run pins s σ H Q I (k σ H Q q)⟩
theorem PT.imp {X : Cx} {e : Expr} {t t' : TT} (h : PT X e t) (k : ∀ σ H Q, t' σ H Q → t σ H Q) : PT X e t' := ⟨fun pins s σ H Q I q => h.run pins s σ H Q I (k σ H Q q)⟩
theorem PA.imp {X : Cx} {e : List Expr} {t t' : TA} (h : PA X e t) (k : ∀ σ H Q, t' σ H Q → t σ H Q) : PA X e t' := ⟨fun pos pins s σ H Q I q => h.run pos pins s σ H Q I (k σ H Q q)⟩
theorem PS.imp {X : Cx} {st : Stmt} {t t' : TS} (h : PS X st t) (k : ∀ D σ H, t' D σ H → t D σ H) : PS X st t' := ⟨fun pins s σ H D I q => h.run pins s σ H D I (k D σ H q)⟩
theorem PSs.imp {X : Cx} {st : List Stmt} {t t' : TS} (h : PSs X st t) (k : ∀ D σ H, t' D σ H → t D σ H) : PSs X st t' := ⟨fun pins s σ H D I q => h.run pins s σ H D I (k D σ H q)⟩
theorem upd_nt {p : Addr} {o : HO} (n : ∀ a ps, G a ≠ some (.tbl ps)) (h : ∀ ps, o ≠ .tbl ps) : ∀ a ps, upd G p o a ≠ some (.tbl ps) := fun a ps e => by
  by_cases z : a = p
  · rw [z, upd_same] at e
    exact h ps (Option.some.inj e)
  · rw [upd_ne z] at e
    exact n a ps e
theorem freeze_nt {M : List Addr} (n : ∀ a ps, G a ≠ some (.tbl ps)) (h : ∀ a ∈ M, ∃ o, H a = some o ∧ OwnO o) : ∀ a ps, freeze G H M a ≠ some (.tbl ps) := fun a ps e => by
  by_cases z : a ∈ M
  · rw [freeze_in z] at e
    obtain ⟨vs, q, w⟩ := h a z
    rw [q] at e
    cases e
    cases w
  · rw [freeze_out z] at e
    exact n a ps e
/-- a new frozen object -/
theorem Sta.laid {F : Hp} {ρ : Env'} {σ : L2.St} {L : List Addr} {p : Addr} {o : HO} (s : Sta K F G H ρ σ L) (hp : H p = none) (ho : ∀ ps, o ≠ .tbl ps := by intro _ z; cases z) : Aft K F G (upd G p o) (upd H p o) ρ σ L := by
  have gp : G p = none := s.gh.free hp
  have g : Same G (upd G p o) := fun a x e => by rw [upd_ne (ne_of_none e gp)]; exact e
  have ne : ∀ a ∈ L, a ≠ p := fun a ha z => by
    obtain ⟨⟨x, hx⟩, _⟩ := s.sr.there a ha
    rw [z, hp] at hx
    cases hx
  refine ⟨⟨s.sr.step g (fun a ha => upd_ne (ne a ha)) fun a ha => ?_, s.nd, s.fr, fun a x e => ?_, fun a x e => ?_, tabs_upd s.tb hp, s.nt, upd_nt s.ng ho⟩, g, fun a h1 h2 => ?_⟩
  · rw [upd_ne (ne a ha)]
    exact (s.sr.there a ha).2
  · rw [upd_ne (ne_of_none (s.fh a x e) hp)]
    exact s.fh a x e
  · by_cases h : a = p
    · subst h
      rw [upd_same] at e ⊢
      exact e
    · rw [upd_ne h] at e ⊢
      exact s.gh a x e
  · by_cases h : a = p
    · subst h
      exact absurd (s.fh.free hp) h1
    · rw [upd_ne h]
      exact h2
/-- a new list of one's own -/
theorem Sta.made {F : Hp} {ρ : Env'} {σ : L2.St} {L : List Addr} {p : Addr} {o : HO} (s : Sta K F G H ρ σ L) (hp : H p = none) : Aft K F G G (upd H p o) ρ σ L := by
  have ne : ∀ a ∈ L, a ≠ p := fun a ha z => by
    obtain ⟨⟨x, hx⟩, _⟩ := s.sr.there a ha
    rw [z, hp] at hx
    cases hx
  refine ⟨⟨s.sr.step (Same.refl _) (fun a ha => upd_ne (ne a ha)) fun a ha => (s.sr.there a ha).2, s.nd, s.fr, fun a x e => ?_, fun a x e => ?_, tabs_upd s.tb hp, s.nt, s.ng⟩, Same.refl _, fun a _ h => h⟩
  · rw [upd_ne (ne_of_none (s.fh a x e) hp)]
    exact s.fh a x e
  · rw [upd_ne (ne_of_none (s.gh a x e) hp)]
    exact s.gh a x e
/-- a value is frozen where it stands -/
theorem Sta.frozen {F : Hp} {ρ : Env'} {σ : L2.St} {L M : List Addr} {x : Tv} {v : V} {d : PyData} (s : Sta K F G H ρ σ L) (q : Val K F G H L x v M) (e : x.frz = some d) : Aft K F G (freeze G H M) H ρ σ L ∧ Dq (freeze G H M) v d := by
  have hM : ∀ a ∈ M, G a = none := fun a ha => (q.r.there a ha).2
  refine ⟨⟨⟨s.sr.step (freeze_grow hM) (fun _ _ => rfl) fun a ha => ?_, s.nd, s.fr, s.fh, freeze_same s.gh, s.tb, s.nt, freeze_nt s.ng fun a ha => q.r.list a ha⟩, freeze_grow hM, fun a h1 h2 => ?_⟩, q.r.frozen hM e fun _ h => h⟩
  · rw [freeze_out fun h => q.ap a h ha]
    exact (s.sr.there a ha).2
  · by_cases h : a ∈ M
    · exact absurd (q.fr a h) h1
    · rw [freeze_out h]
      exact h2
end
end Tr
set_option Elab.async false
set_option linter.all false
set_option maxRecDepth 100000
namespace Tr
open PySem PySem.Spec PyProof.Rows L2
/-- simple expressions: they leave everything as it is -/
inductive SE where
  | var (i : Nat) | int (n : Int) | str (s : Str) | bl (b : Bool) | non | glob (x : Str)
  | add (a b : SE) | sub (a b : SE) | neg (a : SE) | idx (a b : SE) | len (a : SE)
inductive BO where | add | sub | mul | fdiv | mod | pow
inductive CO where | eq | ne | lt | le | gt | ge | inn | nin
inductive Bn where | bool | len | abs | int | str | repr | tuple | list | sorted | sum | any | all | max | min | max2 | min2 | suml
mutual
inductive Tg where | name (i : Nat) | tup (ts : TgL)
inductive TgL where | nil | cons (t : Tg) (ts : TgL)
end
mutual
inductive E where
  | sim (s : SE)
  | bin (o : BO) (a b : E) | neg (a : E)
  | cmp (o : CO) (a b : E) | isN (a : E) | notN (a : E) | chain (o o' : CO) (a b c : E)
  | and_ (es : EL) | or_ (es : EL) | not_ (a : E) | ite (c a b : E)
  | tup (es : EL) | lst (es : EL)
  | idx (a b : E) | slice (a : E) (lo hi : OE) | rev (a : E)
  | callL (f : Str) (ss : List SE)
  | call (f : Str) (es : EL) | callK (f : Str) (ks : List Str) (es : EL)
  | blt1 (b : Bn) (e : E) | bltv (b : Bn) (e : E) | blt2 (b : Bn) (e e2 : E) | sortset (a : E) | lrng (t : Bool) (a : OE) (b : E)
  | lc (elt : E) (tg : Tg) (it : It) (c : OE) (vs : List Nat)
  | lcO (elt : E) (tg : Tg) (i : Nat) (c : OE) (vs : List Nat)
  | pop (i : Nat) (a : E) | index (a b : E) | maxd (a b : E) | idxL (i : Nat) (b : E) | idxD (i : Nat) (b : E) | idxV (i : Nat) (b : E) | isi (a : E) (t : Str) | dct (l : List (Str × Int)) | callV (i : Nat) (f : Str) (es : EL) | fza (a : E) | fzl (a : E)
  | dmk (a : E) | dgt (i : Nat) (b : E) | dnew | dget (i : Nat) (b : E) | dgd (i : Nat) (b c : E) | din (b : E) (i : Nat)
inductive EL where | nil | cons (e : E) (es : EL)
inductive OE where | non | som (e : E)
inductive It where | seq (a : E) | rng (a : OE) (b : E) | enum (a : E) | zip (a b : E)
end
mutual
inductive S where
  | set (i : Nat) (e : E) | unp (tg : Tg) (e : E) | par (is : List Nat) (es : EL)
  | ix1 (i : Nat) (k : SE) (e : E) | ix2 (i : Nat) (j k : SE) (e : E) | ixp (i : Nat) (j k : SE) (es : EL) | ixe (i : Nat) (a e : E) | dput (i : Nat) (b e : E)
  | app (i : Nat) (e : E) | ext (i : Nat) (e : E) | exT (i : Nat) (e : E) | expr (e : E)
  | ret (e : E) | retv (i : Nat) | retN
  | ite (c : E) (a b : SL) | for_ (tg : Tg) (it : It) (body : SL) (er : List Nat) | while_ (c : E) (body : SL) (er : List Nat)
  | retF (f : Str) (es : EL) (ok : LamK → Bool) (caps : List (Str × Nat)) | setF (i : Nat) (f : Str) (es : EL) (ok : LamK → Bool) (caps : List (Str × Nat))
  | pass | brk | cont | never
inductive SL where | nil | cons (s : S) (ss : SL) | lot (fi ni hi li ki : Nat) (lam : Str) (ss : SL)
end
/-- not deeper than n, no dict within -/
def shal : Nat → PyData → Bool
  | _, .none => true
  | _, .bool _ => true
  | _, .int _ => true
  | _, .str _ => true
  | 0, .list _ => false
  | 0, .tuple _ => false
  | n + 1, .list xs => xs.all (shal n)
  | n + 1, .tuple xs => xs.all (shal n)
  | _, .dict _ => false
/-- it is shown in a text that fits -/
def Tv.item (x : Tv) (k : Int) : Option Tv := match x with
  | .own xs => atI xs k
  | .d (.list xs) => (atI xs k).map .d
  | .d (.tuple xs) => (atI xs k).map .d
  | _ => none
def Tv.len (x : Tv) : Option Nat := match x with
  | .own xs => some xs.length
  | .d (.list xs) => some xs.length
  | .d (.tuple xs) => some xs.length
  | .scr ns => some ns.length
  | _ => none
abbrev Gam := Str → Option PyData
def sv (Γ : Gam) (ρ : Env') : SE → Option Tv
  | .var i => (ρ[i]?).join
  | .int n => some (.d (.int n))
  | .str z => some (.d (.str z))
  | .bl b => some (.d (.bool b))
  | .non => some (.d .none)
  | .glob x => (Γ x).map .d
  | .add a b => match sv Γ ρ a, sv Γ ρ b with
    | some (.d (.int i)), some (.d (.int j)) => some (.d (.int (i + j)))
    | _, _ => none
  | .sub a b => match sv Γ ρ a, sv Γ ρ b with
    | some (.d (.int i)), some (.d (.int j)) => some (.d (.int (i - j)))
    | _, _ => none
  | .neg a => match sv Γ ρ a with
    | some (.d (.int i)) => some (.d (.int (-i)))
    | _ => none
  | .idx a b => match sv Γ ρ a, sv Γ ρ b with
    | some x, some (.d (.int k)) => x.item k
    | _, _ => none
  | .len a => match sv Γ ρ a with
    | some x => x.len.map fun n => .d (.int n)
    | none => none
/-- a simple expression as a value: what one name alone holds is frozen in its place -/
def simV (Γ : Gam) (s : SE) : WE := fun ρ Q => match sv Γ ρ s with
  | some (.d x) => Q (.d x) ρ
  | some (.scr ns) => Q (.scr ns) ρ
  | some (.fn k c) => (match s with
    | .var _ => Q (.fn k c) ρ
    | _ => False)
  | some (.map _) => False
  | some (.own xs) => (match s with
    | .var i => ∃ d, (Tv.own xs).frz = some d ∧ Q (.d d) (ρ.set i (some (.d d)))
    | _ => False)
  | none => False
/-- looked at, not taken -/
def simR (Γ : Gam) (s : SE) : WE := fun ρ Q => ∃ x, sv Γ ρ s = some x ∧ Q x ρ
def opB : BO → Tv → Tv → (Tv → Prop) → Prop
  | .add, .d (.int i), .d (.int j), Q => Q (.d (.int (i + j)))
  | .add, .d (.str x), .d (.str y), Q => x.length + y.length ≤ sizeLine ∧ Q (.d (.str (x ++ y)))
  | .add, .d (.tuple xs), .d (.tuple ys), Q => xs.length + ys.length ≤ sizeLine ∧ Q (.d (.tuple (xs ++ ys)))
  | .add, x, y, Q => ∃ xs ys, x.frz = some (.list xs) ∧ y.frz = some (.list ys) ∧ xs.length + ys.length ≤ sizeLine ∧ Q (.own ((xs ++ ys).map .d))
  | .sub, .d (.int i), .d (.int j), Q => Q (.d (.int (i - j)))
  | .mul, .d (.int i), .d (.int j), Q => (CMul i j ∨ CMulW i j) ∧ Q (.d (.int (i * j)))
  | .mul, .d (.tuple xs), .d (.int k), Q => xs ≠ [] ∧ 0 ≤ k ∧ k ≤ 1000 ∧ xs.length ≤ 1000 ∧ Q (.d (.tuple (List.replicate k.toNat xs).flatten))
  | .mul, x, .d (.int k), Q => ∃ xs, x.frz = some (.list xs) ∧ -(2 ^ 63) ≤ k ∧ k < 2 ^ 63 ∧ xs.length * k.toNat ≤ sizeLine ∧ Q (.own ((List.replicate k.toNat xs).flatten.map .d))
  | .fdiv, .d (.int i), .d (.int j), Q => CDivW i j ∧ Q (.d (.int (i / j)))
  | .mod, .d (.int i), .d (.int j), Q => 0 < j ∧ Q (.d (.int (i % j)))
  | .pow, .d (.int i), .d (.int j), Q => CPow i j ∧ Q (.d (.int (i ^ j.toNat)))
  | _, _, _, _ => False
/-- two data by an order -/
def ordC (a b : PyData) (p : Int → Int → Bool) (d : Bool) (Q : Bool → Prop) : Prop := match a, b with
  | .int i, .int j => Q (p i j)
  | a, b => PySem.W.alike a b = true ∧ a ≠ .none ∧ shal 30 a = true ∧ Q d
def inC (a b : PyData) (f : Bool → Bool) (Q : Bool → Prop) : Prop := match b with
  | .list xs => shal 30 a = true ∧ shal 30 (.list xs) = true ∧ Q (f (xs.any fun y => PyData.eqv y a))
  | .tuple xs => shal 30 a = true ∧ shal 30 (.tuple xs) = true ∧ Q (f (xs.any fun y => PyData.eqv y a))
  | _ => False
def cmpD : CO → PyData → PyData → (Bool → Prop) → Prop
  | .eq, a, b, Q => shal 30 a = true ∧ shal 30 b = true ∧ Q (PyData.eqv a b)
  | .ne, a, b, Q => shal 30 a = true ∧ shal 30 b = true ∧ Q (!PyData.eqv a b)
  | .lt, a, b, Q => ordC a b (fun i j => decide (i < j)) (PySem.W.dataLt a b) Q
  | .le, a, b, Q => ordC a b (fun i j => decide (i ≤ j)) (!PySem.W.dataLt b a) Q
  | .gt, a, b, Q => ordC a b (fun i j => decide (j < i)) (PySem.W.dataLt b a) Q
  | .ge, a, b, Q => ordC a b (fun i j => decide (j ≤ i)) (!PySem.W.dataLt a b) Q
  | .inn, a, b, Q => inC a b id Q
  | .nin, a, b, Q => inC a b not Q
def cmpO (o : CO) (x y : Tv) (Q : Bool → Prop) : Prop := ∃ a b, x.frz = some a ∧ y.frz = some b ∧ cmpD o a b Q
def cutD {α : Type} (xs : List α) (lo hi : Option Int) : List α := (xs.drop (HT.sIx xs.length 0 lo)).take (HT.sIx xs.length xs.length hi - HT.sIx xs.length 0 lo)
def sliceO (x : Tv) (lo hi : Option Int) (Q : Tv → Prop) : Prop := match x with
  | .scr ns => Q (.own ((cutD ns lo hi).map fun n => .d (.int n)))
  | .d (.tuple xs) => Q (.d (.tuple (cutD xs lo hi)))
  | x => ∃ xs, x.frz = some (.list xs) ∧ Q (.own ((cutD xs lo hi).map .d))
def revO (x : Tv) (Q : Tv → Prop) : Prop := match x with
  | .d (.tuple xs) => Q (.d (.tuple xs.reverse))
  | x => ∃ xs, x.frz = some (.list xs) ∧ Q (.own (xs.reverse.map .d))
/-- isinstance -/
def isiD (d : PyData) (t : Str) : Bool := match d with
  | .bool _ => t == "bool" || t == "int"
  | .int _ => t == "int"
  | .str _ => t == "str"
  | .list _ => t == "list"
  | .tuple _ => t == "tuple"
  | _ => false
def isNonD : PyData → Bool
  | .none => true
  | _ => false
/-- the items of a list or a tuple -/
def PyData.itemsOf : PyData → Option (List PyData)
  | .list xs => some xs
  | .tuple xs => some xs
  | _ => none
def intsOf : List PyData → Option (List Int)
  | [] => some []
  | .int i :: xs => (intsOf xs).map (i :: ·)
  | _ => none
def listsOf : List PyData → Option (List (List PyData))
  | [] => some []
  | .list x :: xs => (listsOf xs).map (x :: ·)
  | _ => none
def boolsOf : List PyData → Option (List Bool)
  | [] => some []
  | .bool b :: xs => (boolsOf xs).map (b :: ·)
  | _ => none
def dle (a b : PyData) : Bool := !PySem.W.dataLt b a
/-- what is asked of a list that is sorted -/
structure SortOk (xs : List PyData) : Prop where
  al : PySem.W.AllAlike xs
  so : PySem.W.Sortable xs
  sh : ∀ x ∈ xs, shal 30 x = true
/-- data without a list, with dicts of ints -/
def tupD : Nat → PyData → Bool
  | _, .none => true
  | _, .bool _ => true
  | _, .int _ => true
  | _, .str _ => true
  | _, .list _ => false
  | 0, .tuple _ => false
  | n + 1, .tuple xs => xs.all (tupD n)
  | n, .dict kvs => decide (2 ≤ n) && kvs.all fun p => match p.2 with
    | .int _ => true
    | _ => false
structure ShowOk (d : PyData) : Prop where
  sh : d.showable = true
  nd : (∃ kvs, d = .dict kvs) ∨ shal 30 d = true ∨ tupD 30 d = true
  sz : d.shown.length ≤ sizeLine
def intOfD : PyData → Option Int
  | .int i => some i
  | .bool b => some (if b then 1 else 0)
  | _ => none
/-- what repr takes -/
def dInt : PyData → Bool
  | .int _ => true
  | _ => false
def PyData.repD : PyData → Option (List PyData)
  | .list xs => some xs
  | .tuple xs => some xs
  | .none => some []
  | .bool _ => some []
  | .str _ => some []
  | .int i => if i.natAbs.log2 < 1920 then some [] else Option.none
  | .dict kvs => if kvs.all (fun p => dInt p.2) then some [] else Option.none
def bltO (b : Bn) (as : List Tv) (Q : Tv → Prop) : Prop := match b with
  | .bool => ∃ i, as = [.d (.int i)] ∧ Q (.d (.bool (i != 0)))
  | .len => ∃ x n, as = [x] ∧ x.len = some n ∧ Q (.d (.int (n : Nat)))
  | .abs => ∃ i, as = [.d (.int i)] ∧ Q (.d (.int (if i < 0 then -i else i)))
  | .int => ∃ d i, as = [.d d] ∧ intOfD d = some i ∧ Q (.d (.int i))
  | .str => ∃ i, as = [.d (.int i)] ∧ i.natAbs.log2 < 1920 ∧ Q (.d (.str (toString i)))
  | .repr => ∃ x d xs, as = [x] ∧ x.frz = some d ∧ PyData.repD d = some xs ∧ ShowOk d ∧ Q (.d (.str d.shown))
  | .tuple => ∃ x d xs, as = [x] ∧ x.frz = some d ∧ PyData.itemsOf d = some xs ∧ Q (.d (.tuple xs))
  | .list => ∃ x d xs, as = [x] ∧ x.frz = some d ∧ PyData.itemsOf d = some xs ∧ Q (.own (xs.map .d))
  | .sorted => ∃ x d xs, as = [x] ∧ x.frz = some d ∧ PyData.itemsOf d = some xs ∧ SortOk xs ∧ Q (.own ((xs.mergeSort dle).map .d))
  | .sum => ∃ x d xs ns, as = [x] ∧ x.frz = some d ∧ PyData.itemsOf d = some xs ∧ intsOf xs = some ns ∧ Q (.d (.int ns.sum))
  | .any => ∃ x xs bs, as = [x] ∧ x.frz = some (.list xs) ∧ boolsOf xs = some bs ∧ Q (.d (.bool (bs.any id)))
  | .all => ∃ x xs bs, as = [x] ∧ x.frz = some (.list xs) ∧ boolsOf xs = some bs ∧ Q (.d (.bool (bs.all id)))
  | .max => ∃ x xs n ns, as = [x] ∧ x.frz = some (.list xs) ∧ intsOf xs = some (n :: ns) ∧ Q (.d (.int (ns.foldl max n)))
  | .min => ∃ x xs n ns, as = [x] ∧ x.frz = some (.list xs) ∧ intsOf xs = some (n :: ns) ∧ Q (.d (.int (ns.foldl min n)))
  | .max2 => ∃ i j, as = [.d (.int i), .d (.int j)] ∧ Q (.d (.int (if j > i then j else i)))
  | .min2 => ∃ i j, as = [.d (.int i), .d (.int j)] ∧ Q (.d (.int (if j < i then j else i)))
  | .suml => ∃ x y xs xss, as = [x, y] ∧ x.frz = some (.list xs) ∧ y.frz = some (.list []) ∧ listsOf xs = some xss ∧ xss ≠ [] ∧ xss.flatten.length ≤ sizeLine ∧ Q (.own (xss.flatten.map .d))
/-- max(.., default=n) -/
def maxDf (n : Int) : List Int → Int
  | [] => n
  | m :: ms => ms.foldl max m
/-- what stands in sorted(set(..)) of ints -/
def isSortSet (ns ms : List Int) : Prop := ms.Pairwise (· < ·) ∧ ∀ n, n ∈ ms ↔ n ∈ ns
def keyOf : PyData → Option Key
  | .int i => some (.inl i)
  | .str x => some (.inr x)
  | _ => none
def lookK {κ : Type} [DecidableEq κ] (kvs : List (κ × PyData)) (k : κ) : Option PyData := (kvs.find? fun p => decide (p.1 = k)).map (·.2)
def putD {κ : Type} [DecidableEq κ] (kvs : List (κ × PyData)) (k : κ) (v : PyData) : List (κ × PyData) :=
  if (kvs.any fun kv => decide (kv.1 = k)) = true then kvs.map (fun kv => if kv.1 = k then (kv.1, v) else kv) else kvs ++ [(k, v)]
def Dm.get : Dm → PyData → Option (Option PyData)
  | .k kvs, d => (keyOf d).map (lookK kvs)
  | .t _, _ => none
def Dm.put : Dm → PyData → PyData → Option Dm
  | .k kvs, d, v => (keyOf d).map fun k => .k (putD kvs k v)
  | .t _, _, _ => none
def Dm.size : Dm → Nat
  | .k kvs => kvs.length
  | .t kvs => kvs.length
/-- a key that is a tuple of ints -/
def tkOf : PyData → Option (List Int)
  | .tuple xs => intsOf xs
  | _ => none
/-- pairs of such a key and a value -/
def tprs : List PyData → Option (List (List Int × PyData))
  | [] => some []
  | .tuple [k, v] :: xs => match tkOf k, tprs xs with
    | some ks, some rs => some ((ks, v) :: rs)
    | _, _ => none
  | _ => none
abbrev FS := List Tv → (Tv → List (Option Tv) → Prop) → Prop
structure FE where
  ps : List Str
  kw : List (List Str)
  ow : Option Nat
  fs : FS
/-- what goes to a callee: frozen data, or the script -/
def argT : Tv → Option Tv
  | .scr ns => some (.scr ns)
  | .d x => some (.d x)
  | .own xs => (Tv.own xs).frz.map .d
  | .fn k c => some (.fn k c)
  | .map _ => none
def argTs : List Tv → Option (List Tv)
  | [] => some []
  | x :: xs => match argT x, argTs xs with
    | some a, some as => some (a :: as)
    | _, _ => none
/-- the keywords' values, in the parameters' order -/
def kperm {α : Type} (ks : List Str) (ws : List α) : List Str → Option (List α)
  | [] => some []
  | p :: ps => match (ks.zip ws).lookup p, kperm ks ws ps with
    | some a, some as => some (a :: as)
    | _, _ => none
abbrev Phi := Str → Option FE
/-- what a lambda captures: data that names hold -/
def capsV (ρ : Env') : List (Str × Nat) → Option (List (Str × PyData))
  | [] => some []
  | p :: r => match ρ[p.2]?, capsV ρ r with
    | some (some (.d d)), some cs => some ((p.1, d) :: cs)
    | _, _ => none
/-- n comes to the first lot whose head is like it, or makes one of its own -/
def addLot (β : Int → Bool) (n : Int) : List (List Int) → List (List Int)
  | [] => [[n]]
  | l :: ls => if β (l.headD 0) = true then (l ++ [n]) :: ls else l :: addLot β n ls
def lotT (l : List Int) : Tv := .own ((l.map .int).map .d)
/-- the names that stand for functions handed in -/
def lamLabels : List Str := ["<like>", "<change>", "<key>"]
def lamB (f : Str) : Bool := decide (f ∈ lamLabels)
/-- what stands first among what the test is handed: the lambda itself, or data that a def of the text is handed -/
def LotX (lam : Str) (fe : FE) (x : Tv) : Prop := (lamB lam = true ∧ ∃ k caps, x = .fn k caps) ∨ (lamB lam = false ∧ fe.ow = none ∧ ∃ d, x = .d d)
def svs (Γ : Gam) (ρ : Env') : List SE → Option (List Tv)
  | [] => some []
  | s :: ss => match sv Γ ρ s, svs Γ ρ ss with
    | some x, some xs => some (x :: xs)
    | _, _ => none
/-- no object -/
def scalT : Tv → Bool
  | .d .none => true
  | .d (.bool _) => true
  | .d (.int _) => true
  | .d (.str _) => true
  | _ => false
def wipeR (ρ : Env') : List Nat → Env'
  | [] => ρ
  | v :: vs => (wipeR ρ vs).set v none
def keepD : Option Tv → Option Tv
  | some (.d x) => some (.d x)
  | some (.scr n) => some (.scr n)
  | _ => none
def restR (ρ0 ρ : Env') : List Nat → Env'
  | [] => ρ
  | v :: vs => (restR ρ0 ρ vs).set v (keepD (ρ0[v]?).join)
mutual
/-- a target takes data -/
def wTg : Tg → PyData → Env' → (Env' → Prop) → Prop
  | .name i => fun x ρ Q => i < ρ.length ∧ Q (ρ.set i (some (.d x)))
  | .tup ts => fun x ρ Q => ∃ xs, PyData.itemsOf x = some xs ∧ wTgs ts xs ρ Q
def wTgs : TgL → List PyData → Env' → (Env' → Prop) → Prop
  | .nil => fun xs ρ Q => xs = [] ∧ Q ρ
  | .cons t ts => fun xs ρ Q => ∃ y ys, xs = y :: ys ∧ wTg t y ρ fun ρ1 => wTgs ts ys ρ1 Q
end
mutual
def tgVs : Tg → List Nat
  | .name i => [i]
  | .tup ts => tgVss ts
def tgVss : TgL → List Nat
  | .nil => []
  | .cons t ts => tgVs t ++ tgVss ts
end
def E.sim? : E → Option SE
  | .sim s => some s
  | _ => none
def SE.var? : SE → Option Nat
  | .var i => some i
  | _ => none
def E.var? (e : E) : Option Nat := e.sim?.bind SE.var?
abbrev WI := Env' → (List PyData → Env' → Prop) → Prop
abbrev WL := Env' → (List Tv → Env' → Prop) → Prop
abbrev WO := Env' → (Option Int → Env' → Prop) → Prop
def frzT (x : Tv) (Q : PyData → Prop) : Prop := ∃ d, x.frz = some d ∧ Q d
mutual
def wE (Γ : Gam) (Φ : Phi) : E → WE
  | .sim s => simV Γ s
  | .bin o a b => fun ρ Q => wE Γ Φ a ρ fun x ρ1 => wE Γ Φ b ρ1 fun y ρ2 => opB o x y fun z => Q z ρ2
  | .neg a => fun ρ Q => wE Γ Φ a ρ fun x ρ1 => ∃ i, x = .d (.int i) ∧ Q (.d (.int (-i))) ρ1
  | .cmp o a b => fun ρ Q => (match a.var? with
    | some i => (∃ x, ρ[i]? = some (some x)) ∧ (match b.sim? with
      | some s => simR Γ s
      | none => wE Γ Φ b) ρ fun y ρ2 => ∃ x, ρ2[i]? = some (some x) ∧ cmpO o x y fun k => Q (.d (.bool k)) ρ2
    | none => wE Γ Φ a ρ fun x ρ1 => (match b.sim? with
      | some s => simR Γ s
      | none => wE Γ Φ b) ρ1 fun y ρ2 => cmpO o x y fun k => Q (.d (.bool k)) ρ2)
  | .isN a => fun ρ Q => (match a.sim? with
      | some s => simR Γ s
      | none => wE Γ Φ a) ρ fun x ρ1 => frzT x fun d => Q (.d (.bool (isNonD d))) ρ1
  | .notN a => fun ρ Q => (match a.sim? with
      | some s => simR Γ s
      | none => wE Γ Φ a) ρ fun x ρ1 => frzT x fun d => Q (.d (.bool (!isNonD d))) ρ1
  | .chain o o' a b c => fun ρ Q => wE Γ Φ a ρ fun x ρ1 => wE Γ Φ b ρ1 fun y ρ2 => cmpO o x y fun k => (k = true → wE Γ Φ c ρ2 fun z ρ3 => cmpO o' y z fun l => Q (.d (.bool l)) ρ3) ∧ (k = false → Q (.d (.bool false)) ρ2)
  | .and_ es => wAnd Γ Φ es
  | .or_ es => wOr Γ Φ es
  | .not_ a => fun ρ Q => wE Γ Φ a ρ fun x ρ1 => ∃ b, x = .d (.bool b) ∧ Q (.d (.bool (!b))) ρ1
  | .ite c a b => fun ρ Q => wE Γ Φ c ρ fun x ρ1 => ∃ k, x = .d (.bool k) ∧ (k = true → wE Γ Φ a ρ1 Q) ∧ (k = false → wE Γ Φ b ρ1 Q)
  | .tup es => fun ρ Q => wEs Γ Φ es ρ fun xs ρ1 => ∃ ds, frzs xs = some ds ∧ Q (.d (.tuple ds)) ρ1
  | .lst es => fun ρ Q => wEs Γ Φ es ρ fun xs ρ1 => Q (.own xs) ρ1
  | .idx a b => fun ρ Q => wE Γ Φ a ρ fun x ρ1 => wE Γ Φ b ρ1 fun y ρ2 => ∃ k z, y = .d (.int k) ∧ x.item k = some (.d z) ∧ Q (.d z) ρ2
  | .slice a lo hi => fun ρ Q => wE Γ Φ a ρ fun x ρ1 => wO Γ Φ lo ρ1 fun l ρ2 => wO Γ Φ hi ρ2 fun h ρ3 => sliceO x l h fun z => Q z ρ3
  | .rev a => fun ρ Q => wE Γ Φ a ρ fun x ρ1 => revO x fun z => Q z ρ1
  | .callL f ss => fun ρ Q => ∃ fe xs as, Φ f = some fe ∧ fe.ow = none ∧ svs Γ ρ ss = some xs ∧ argTs xs = some as ∧ fe.fs as fun z _ => scalT z = true ∧ Q z ρ
  | .call f es => fun ρ Q => ∃ fe, Φ f = some fe ∧ (match fe.ow with
    | none => wEs Γ Φ es ρ fun xs ρ1 => ∃ as, argTs xs = some as ∧ fe.fs as fun z _ => Q z ρ1
    | some 0 => (match es with
      | .cons e es' => ∃ i, e.var? = some i ∧ (∃ x, ρ[i]? = some (some x)) ∧ wEs Γ Φ es' ρ fun xs ρ1 => ∃ as ts, argTs xs = some as ∧ ρ1[i]? = some (some (.own ts)) ∧
          fe.fs (.own ts :: as) fun z news => ∃ x', news[0]? = some (some x') ∧ Q z (ρ1.set i (some x'))
      | .nil => False)
    | some _ => False)
  | .callK f ks es => fun ρ Q => ∃ fe, Φ f = some fe ∧ fe.ow = none ∧ ks ∈ fe.kw ∧ wEs Γ Φ es ρ fun xs ρ1 => ∃ as bs, argTs xs = some as ∧ kperm ks as fe.ps = some bs ∧ fe.fs bs fun z _ => Q z ρ1
  | .blt1 b e => fun ρ Q => wE Γ Φ e ρ fun x ρ1 => bltO b [x] fun z => Q z ρ1
  | .bltv b e => fun ρ Q => (match e.sim? with
      | some s => simR Γ s
      | none => wE Γ Φ e) ρ fun x ρ1 => bltO b [x] fun z => Q z ρ1
  | .blt2 b e e2 => fun ρ Q => wE Γ Φ e ρ fun x ρ1 => wE Γ Φ e2 ρ1 fun y ρ2 => bltO b [x, y] fun z => Q z ρ2
  | .sortset a => fun ρ Q => (match a.sim? with
      | some s => simR Γ s
      | none => wE Γ Φ a) ρ fun x ρ1 => ∃ d xs ns, x.frz = some d ∧ PyData.itemsOf d = some xs ∧ intsOf xs = some ns ∧ ns.length < 64 ∧ ∀ ms, isSortSet ns ms → Q (.own (ms.map fun n => .d (.int n))) ρ1
  | .lrng t a b => fun ρ Q => wO Γ Φ a ρ fun lo ρ1 => wE Γ Φ b ρ1 fun y ρ2 => ∃ j, y = .d (.int j) ∧ -(2 ^ 62) ≤ lo.getD 0 ∧ lo.getD 0 < 2 ^ 62 ∧ -(2 ^ 62) ≤ j ∧ j < 2 ^ 62 ∧ (j - lo.getD 0).toNat ≤ 2 ^ 24 ∧
      Q (if t then .d (.tuple ((List.range (j - lo.getD 0).toNat).map fun (k : Nat) => .int (lo.getD 0 + k))) else .own ((List.range (j - lo.getD 0).toNat).map fun (k : Nat) => .d (.int (lo.getD 0 + k)))) ρ2
  | .lc elt tg it c vs => fun ρ Q => wI Γ Φ it ρ fun items ρ1 => ∃ I : Nat → List Tv → Env' → Prop, I 0 [] (wipeR ρ1 vs) ∧
      (∀ k x acc ρ2, items[k]? = some x → I k acc ρ2 → wTg tg x ρ2 fun ρ3 => wC Γ Φ c ρ3 fun b ρ4 =>
        (b = true → wE Γ Φ elt ρ4 fun y ρ5 => acc.length < sizeLine ∧ I (k + 1) (acc ++ [y]) (wipeR ρ5 vs)) ∧ (b = false → I (k + 1) acc (wipeR ρ4 vs))) ∧
      ∀ acc ρ2, I items.length acc ρ2 → Q (.own acc) (restR ρ1 ρ2 vs)
  | .lcO elt tg i c vs => fun ρ Q => ∃ ds : List PyData, ρ[i]? = some (some (.own (ds.map .d))) ∧ ∃ I : Nat → List Tv → Env' → Prop, I 0 [] (wipeR ρ vs) ∧
      (∀ k acc ρ2, I k acc ρ2 → ρ2[i]? = some (some (.own (ds.map .d)))) ∧
      (∀ k x acc ρ2, ds[k]? = some x → I k acc ρ2 → wTg tg x ρ2 fun ρ3 => wC Γ Φ c ρ3 fun b ρ4 =>
        (b = true → wE Γ Φ elt ρ4 fun y ρ5 => acc.length < sizeLine ∧ I (k + 1) (acc ++ [y]) (wipeR ρ5 vs)) ∧ (b = false → I (k + 1) acc (wipeR ρ4 vs))) ∧
      ∀ acc ρ2, I ds.length acc ρ2 → Q (.own acc) (restR ρ ρ2 vs)
  | .pop i a => fun ρ Q => (∃ ts, ρ[i]? = some (some (.own ts))) ∧ wE Γ Φ a ρ fun y ρ1 => ∃ ts k x, y = .d (.int k) ∧ ρ1[i]? = some (some (.own ts)) ∧ 0 ≤ k ∧ k < 2 ^ 63 ∧ ts[k.toNat]? = some x ∧ Q x (ρ1.set i (some (.own (ts.eraseIdx k.toNat))))
  | .isi a t => fun ρ Q => (match a.sim? with
      | some s => simR Γ s
      | none => wE Γ Φ a) ρ fun x ρ1 => ∃ d : PyData, x = Tv.d d ∧ Q (.d (.bool (isiD d t))) ρ1
  | .fza a => fun ρ Q => wE Γ Φ a ρ fun x ρ1 => ∃ d, x.frz = some d ∧ Q (.d d) ρ1
  | .fzl a => fun ρ Q => wE Γ Φ a ρ fun x ρ1 => ∃ (xs : List Tv) (ds : List PyData), x = .own xs ∧ frzs xs = some ds ∧ Q (.own (ds.map .d)) ρ1
  | .dmk a => fun ρ Q => wE Γ Φ a ρ fun x ρ1 => ∃ xs kvs, x.frz = some (.list xs) ∧ tprs xs = some kvs ∧ (kvs.map (·.1)).Nodup ∧ kvs.length ≤ 1000 ∧ Q (.map (.t kvs)) ρ1
  | .dgt i b => fun ρ Q => (∃ kvs, ρ[i]? = some (some (.map (.t kvs)))) ∧ wE Γ Φ b ρ fun y ρ1 => ∃ kvs d ks v, ρ1[i]? = some (some (.map (.t kvs))) ∧ y = .d d ∧ tkOf d = some ks ∧ lookK kvs ks = some v ∧ Q (.d v) ρ1
  | .dnew => fun ρ Q => Q (.map (.k [])) ρ
  | .dget i b => fun ρ Q => (∃ m, ρ[i]? = some (some (.map m))) ∧ wE Γ Φ b ρ fun y ρ1 => ∃ m d v, ρ1[i]? = some (some (.map m)) ∧ y = .d d ∧ m.get d = some (some v) ∧ Q (.d v) ρ1
  | .dgd i b c => fun ρ Q => (∃ kvs, ρ[i]? = some (some (.map (.k kvs)))) ∧ wE Γ Φ b ρ fun y ρ1 => wE Γ Φ c ρ1 fun z ρ2 => ∃ m d e o, ρ2[i]? = some (some (.map m)) ∧ y = .d d ∧ z = .d e ∧ m.get d = some o ∧ Q (.d (o.getD e)) ρ2
  | .din b i => fun ρ Q => wE Γ Φ b ρ fun y ρ1 => ∃ m d o, ρ1[i]? = some (some (.map m)) ∧ y = .d d ∧ m.get d = some o ∧ Q (.d (.bool o.isSome)) ρ1
  | .dct l => fun ρ Q => Q (.d (.dict (l.map fun p => (.str p.1, .int p.2)))) ρ
  | .callV i f es => fun ρ Q => (∃ k caps, ρ[i]? = some (some (.fn k caps))) ∧ wEs Γ Φ es ρ fun xs ρ1 => ∃ k caps fe, ∃ ds : List PyData, ρ1[i]? = some (some (.fn k caps)) ∧ Φ f = some fe ∧ argTs xs = some (ds.map .d) ∧ fe.fs (.fn k caps :: ds.map .d) fun z _ => ∃ d, z = .d d ∧ Q (.d d) ρ1
  | .index a b => fun ρ Q => wE Γ Φ a ρ fun x ρ1 => ∃ ns : List Int, x = .d (.tuple (ns.map .int)) ∧ wE Γ Φ b ρ1 fun y ρ2 => ∃ k : Int, y = .d (.int k) ∧ k ∈ ns ∧ Q (.d (.int (ns.idxOf k : Nat))) ρ2
  | .maxd a b => fun ρ Q => wE Γ Φ a ρ fun x ρ1 => wE Γ Φ b ρ1 fun y ρ2 => ∃ xs ns n, x.frz = some (.list xs) ∧ intsOf xs = some ns ∧ y = .d (.int n) ∧ Q (.d (.int (maxDf n ns))) ρ2
  | .idxL i b => fun ρ Q => (∃ ts, ρ[i]? = some (some (.own ts))) ∧ wE Γ Φ b ρ fun y ρ1 => ∃ ts, ∃ ns : List Int, ∃ k : Int, ρ1[i]? = some (some (.own ts)) ∧ (Tv.own ts).frz = some (.list (ns.map .int)) ∧ y = .d (.int k) ∧ k ∈ ns ∧ Q (.d (.int (ns.idxOf k : Nat))) ρ1
  | .idxD i b => fun ρ Q => (∃ ts, ρ[i]? = some (some (.own ts))) ∧ wE Γ Φ b ρ fun y ρ1 => ∃ ts, ∃ ds : List PyData, ∃ d : PyData, ∃ j : Nat, ∃ z : PyData, ρ1[i]? = some (some (.own ts)) ∧ (Tv.own ts).frz = some (.list ds) ∧ y = .d d ∧ shal 30 (.list ds) = true ∧ shal 30 d = true ∧ ds[j]? = some z ∧ PyData.eqv z d = true ∧ (∀ (m : Nat) (z' : PyData), m < j → ds[m]? = some z' → PyData.eqv z' d = false) ∧ Q (.d (.int (j : Nat))) ρ1
  | .idxV i b => fun ρ Q => (∃ ts, ρ[i]? = some (some (.own ts))) ∧ wE Γ Φ b ρ fun y ρ1 => ∃ ts k z, ρ1[i]? = some (some (.own ts)) ∧ y = .d (.int k) ∧ (Tv.own ts).item k = some (.d z) ∧ Q (.d z) ρ1
def wEs (Γ : Gam) (Φ : Phi) : EL → WL
  | .nil => fun ρ Q => Q [] ρ
  | .cons e es => fun ρ Q => wE Γ Φ e ρ fun x ρ1 => wEs Γ Φ es ρ1 fun xs ρ2 => Q (x :: xs) ρ2
def wAnd (Γ : Gam) (Φ : Phi) : EL → WE
  | .nil => fun _ _ => False
  | .cons e es => fun ρ Q => wE Γ Φ e ρ fun x ρ1 => ∃ b, x = .d (.bool b) ∧ (match es with
    | .nil => Q (.d (.bool b)) ρ1
    | es => (b = true → wAnd Γ Φ es ρ1 Q) ∧ (b = false → Q (.d (.bool false)) ρ1))
def wOr (Γ : Gam) (Φ : Phi) : EL → WE
  | .nil => fun _ _ => False
  | .cons e es => fun ρ Q => wE Γ Φ e ρ fun x ρ1 => ∃ b, x = .d (.bool b) ∧ (match es with
    | .nil => Q (.d (.bool b)) ρ1
    | es => (b = true → Q (.d (.bool true)) ρ1) ∧ (b = false → wOr Γ Φ es ρ1 Q))
def wO (Γ : Gam) (Φ : Phi) : OE → WO
  | .non => fun ρ Q => Q none ρ
  | .som e => fun ρ Q => wE Γ Φ e ρ fun x ρ1 => ∃ k, x = .d (.int k) ∧ Q (some k) ρ1
def wC (Γ : Gam) (Φ : Phi) : OE → Env' → (Bool → Env' → Prop) → Prop
  | .non => fun ρ Q => Q true ρ
  | .som e => fun ρ Q => wE Γ Φ e ρ fun x ρ1 => ∃ k, x = .d (.bool k) ∧ Q k ρ1
def wI (Γ : Gam) (Φ : Phi) : It → WI
  | .seq a => fun ρ Q => wE Γ Φ a ρ fun x ρ1 => ∃ d xs, x.frz = some d ∧ PyData.itemsOf d = some xs ∧ Q xs ρ1
  | .rng a b => fun ρ Q => wO Γ Φ a ρ fun lo ρ1 => wE Γ Φ b ρ1 fun y ρ2 => ∃ j, y = .d (.int j) ∧ -(2 ^ 62) ≤ lo.getD 0 ∧ lo.getD 0 < 2 ^ 62 ∧ -(2 ^ 62) ≤ j ∧ j < 2 ^ 62 ∧
      Q ((List.range (j - lo.getD 0).toNat).map fun (k : Nat) => .int (lo.getD 0 + k)) ρ2
  | .enum a => fun ρ Q => wE Γ Φ a ρ fun x ρ1 => ∃ d xs, x.frz = some d ∧ PyData.itemsOf d = some xs ∧ Q (xs.mapIdx fun k x => .tuple [.int k, x]) ρ1
  | .zip a b => fun ρ Q => wE Γ Φ a ρ fun x ρ1 => wE Γ Φ b ρ1 fun y ρ2 => ∃ d e xs ys, x.frz = some d ∧ y.frz = some e ∧ PyData.itemsOf d = some xs ∧ PyData.itemsOf e = some ys ∧
      Q (List.zipWith (fun p q => .tuple [p, q]) xs ys) ρ2
end
structure DE where
  nx : Env' → Prop
  rt : Tv → Env' → Prop
  bk : Env' → Prop := fun _ => False
  ct : Env' → Prop := fun _ => False
abbrev WS := DE → Env' → Prop
mutual
def wS (Γ : Gam) (Φ : Phi) : S → WS
  | .set i e => fun D ρ => wE Γ Φ e ρ fun x ρ1 => i < ρ1.length ∧ D.nx (ρ1.set i (some x))
  | .unp tg e => fun D ρ => wE Γ Φ e ρ fun x ρ1 => ∃ d, x.frz = some d ∧ wTg tg d ρ1 D.nx
  | .par is es => fun D ρ => wEs Γ Φ es ρ fun xs ρ1 => xs.length = is.length ∧ is.Nodup ∧ (∀ i ∈ is, i < ρ1.length) ∧ D.nx ((is.zip xs).foldl (fun r p => r.set p.1 (some p.2)) ρ1)
  | .ix1 i k e => fun D ρ => wE Γ Φ e ρ fun y ρ1 => ∃ ts n j, ρ1[i]? = some (some (.own ts)) ∧ sv Γ ρ1 k = some (.d (.int n)) ∧ ixN ts.length n = some j ∧ D.nx (ρ1.set i (some (.own (ts.set j y))))
  | .ix2 i k1 k e => fun D ρ => wE Γ Φ e ρ fun y ρ1 => ∃ ts n1 j1 us n j, ρ1[i]? = some (some (.own ts)) ∧ sv Γ ρ1 k1 = some (.d (.int n1)) ∧ ixN ts.length n1 = some j1 ∧ ts[j1]? = some (.own us) ∧
      sv Γ ρ1 k = some (.d (.int n)) ∧ ixN us.length n = some j ∧ D.nx (ρ1.set i (some (.own (ts.set j1 (.own (us.set j y))))))
  | .ixp i k1 k2 es => fun D ρ => wEs Γ Φ es ρ fun xs ρ1 => ∃ y1 y2 ts n1 j1 n2 j2, xs = [.d y1, .d y2] ∧ ρ1[i]? = some (some (.own ts)) ∧ sv Γ ρ1 k1 = some (.d (.int n1)) ∧ ixN ts.length n1 = some j1 ∧
      sv Γ (ρ1.set i (some (.own (ts.set j1 (.d y1))))) k2 = some (.d (.int n2)) ∧ ixN ts.length n2 = some j2 ∧ D.nx (ρ1.set i (some (.own ((ts.set j1 (.d y1)).set j2 (.d y2)))))
  | .ixe i a e => fun D ρ => wE Γ Φ e ρ fun y ρ1 => ∃ d, y = .d d ∧ (∃ ts, ρ1[i]? = some (some (.own ts))) ∧ wE Γ Φ a ρ1 fun z ρ2 => ∃ n ts j, z = .d (.int n) ∧ ρ2[i]? = some (some (.own ts)) ∧ ixN ts.length n = some j ∧ D.nx (ρ2.set i (some (.own (ts.set j (.d d)))))
  | .dput i b e => fun D ρ => wE Γ Φ e ρ fun y ρ1 => ∃ v, y = .d v ∧ (∃ m, ρ1[i]? = some (some (.map m))) ∧ wE Γ Φ b ρ1 fun z ρ2 => ∃ m d m', z = .d d ∧ ρ2[i]? = some (some (.map m)) ∧ m.size < sizeLine ∧ m.put d v = some m' ∧ D.nx (ρ2.set i (some (.map m')))
  | .app i e => fun D ρ => (∃ ts, ρ[i]? = some (some (.own ts))) ∧ wE Γ Φ e ρ fun y ρ1 => ∃ ts, ρ1[i]? = some (some (.own ts)) ∧ ts.length < sizeLine ∧ D.nx (ρ1.set i (some (.own (ts ++ [y]))))
  | .ext i e => fun D ρ => (∃ ts, ρ[i]? = some (some (.own ts))) ∧ wE Γ Φ e ρ fun y ρ1 => ∃ ts xs, ρ1[i]? = some (some (.own ts)) ∧ y.frz = some (.list xs) ∧ ts.length + xs.length ≤ sizeLine ∧ D.nx (ρ1.set i (some (.own (ts ++ xs.map .d))))
  | .exT i e => fun D ρ => (∃ ts, ρ[i]? = some (some (.own ts))) ∧ wE Γ Φ e ρ fun y ρ1 => ∃ ts xs, ρ1[i]? = some (some (.own ts)) ∧ y = .d (.tuple xs) ∧ ts.length + xs.length ≤ sizeLine ∧ D.nx (ρ1.set i (some (.own (ts ++ xs.map .d))))
  | .expr e => fun D ρ => wE Γ Φ e ρ fun _ ρ1 => D.nx ρ1
  | .ret e => fun D ρ => wE Γ Φ e ρ fun x ρ1 => D.rt x ρ1
  | .retv i => fun D ρ => ∃ x, ρ[i]? = some (some x) ∧ D.rt x (ρ.set i none)
  | .retF f es ok caps => fun D ρ => ∃ fe, Φ f = some fe ∧ fe.ow = none ∧ wEs Γ Φ es ρ fun xs ρ1 => ∃ as cs, argTs xs = some as ∧ capsV ρ1 caps = some cs ∧ ∀ k, ok k = true → fe.fs (as ++ [.fn k cs]) fun z _ => ∃ d, z = .d d ∧ D.rt (.d d) ρ1
  | .setF i f es ok caps => fun D ρ => ∃ fe, Φ f = some fe ∧ fe.ow = none ∧ wEs Γ Φ es ρ fun xs ρ1 => ∃ as cs, argTs xs = some as ∧ capsV ρ1 caps = some cs ∧ ∀ k, ok k = true → fe.fs (as ++ [.fn k cs]) fun z _ => ∃ d, z = .d d ∧ i < ρ1.length ∧ D.nx (ρ1.set i (some (.d d)))
  | .retN => fun D ρ => D.rt (.d .none) ρ
  | .ite c a b => fun D ρ => wE Γ Φ c ρ fun x ρ1 => ∃ k, x = .d (.bool k) ∧ (k = true → wSL Γ Φ a D ρ1) ∧ (k = false → wSL Γ Φ b D ρ1)
  | .for_ tg it body er => fun D ρ => wI Γ Φ it ρ fun items ρ1 => ∃ I : Nat → Env' → Prop, I 0 ρ1 ∧
      (∀ k x ρ2, items[k]? = some x → I k ρ2 → wTg tg x ρ2 fun ρ3 => wSL Γ Φ body { nx := fun ρ4 => I (k + 1) (wipeR ρ4 er), ct := fun ρ4 => I (k + 1) (wipeR ρ4 er), bk := fun ρ4 => D.nx (wipeR ρ4 er), rt := D.rt } ρ3) ∧
      ∀ ρ2, I items.length ρ2 → D.nx ρ2
  | .while_ c body er => fun D ρ => ∃ (I : Env' → Prop) (μ : Env' → Nat), I ρ ∧ ∀ ρ1, I ρ1 → wE Γ Φ c ρ1 fun x ρ2 => ∃ k, x = .d (.bool k) ∧
      (k = true → wSL Γ Φ body { nx := fun ρ4 => I (wipeR ρ4 er) ∧ μ (wipeR ρ4 er) < μ ρ1, ct := fun ρ4 => I (wipeR ρ4 er) ∧ μ (wipeR ρ4 er) < μ ρ1, bk := fun ρ4 => D.nx (wipeR ρ4 er), rt := D.rt } ρ2) ∧ (k = false → D.nx ρ2)
  | .pass => fun D ρ => D.nx ρ
  | .brk => fun D ρ => D.bk ρ
  | .cont => fun D ρ => D.ct ρ
  | .never => fun _ _ => False
def wSL (Γ : Gam) (Φ : Phi) : SL → WS
  | .nil => fun D ρ => D.nx ρ
  | .cons s ss => fun D ρ => wS Γ Φ s { D with nx := fun ρ1 => wSL Γ Φ ss D ρ1 } ρ
  | .lot fi ni hi li ki lam ss => fun D ρ => hi < ρ.length ∧ li < ρ.length ∧ ∃ (ts : List (List Int)) (n : Int) (x : Tv) (fe : FE) (β : Int → Bool), ρ[fi]? = some (some (.own (ts.map lotT))) ∧ ρ[ni]? = some (some (.d (.int n))) ∧ ρ[ki]? = some (some x) ∧ LotX lam fe x ∧ Φ lam = some fe ∧
      ts.length < 1000 ∧ (∀ l ∈ ts, l ≠ [] ∧ l.length < 1000) ∧ (∀ l ∈ ts, ∀ Q' : Tv → List (Option Tv) → Prop, (∀ rest, Q' (.d (.bool (β (l.headD 0)))) rest) → fe.fs [x, .d (.int (l.headD 0)), .d (.int n)] Q') ∧
      wSL Γ Φ ss D ((ρ.set hi none).set fi (some (.own ((addLot β n ts).map lotT))))
end
/-- a def by its body: n parameters, N names -/
def fsOf (Γ : Gam) (Φ : Phi) (n N : Nat) (b : SL) : FS := fun xs Q => xs.length = n ∧
  wSL Γ Φ b { nx := fun ρ => Q (.d .none) ρ, rt := fun x ρ => Q x ρ } (xs.map some ++ List.replicate (N - n) none)
end Tr
set_option Elab.async false
set_option linter.all false
set_option maxRecDepth 100000
set_option maxHeartbeats 1000000
namespace Tr
open PySem PySem.Spec PyProof.Rows L2
def visB (sc : Scope) (x : Str) : Bool := match sc.names.lookup x with | some .local => true | some .cell => true | some .free => true | _ => false
def glB (sc : Scope) (x : Str) : Bool := match sc.names.lookup x with | some .globalImplicit => true | _ => false
def nmB (x : Str) : Bool := !(x == ("__debug__" : Str)) && !(x == ("__classdict__" : Str)) && !(x == ("__name__" : Str))
def plainE : Expr → Bool
  | .Starred .. => false
  | .Set .. => false
  | .Slice .. => false
  | _ => true
theorem starEach_plain {e : Expr} {es : List Expr} {env : Env} (h : plainE e = true) : starEach (e :: es) env = (false, eval e env) :: starEach es env := by
  cases e <;> first | rfl | cases h
theorem folded_plain {e : Expr} {env : Env} (h : plainE e = true) : ∀ x, foldedSetIterable e env x = pure x := by
  intro x
  cases e <;> first | rfl | cases h
theorem behind_plain {e : Expr} {op : CmpOp} (h : plainE e = true) : behindInMarks op e = false := by
  cases e <;> first | rfl | cases h
theorem ix_plain {e : Expr} (h : plainE e = true) : PlainIx e := by
  intro o i
  cases e <;> first | rfl | cases h
def bnames : List Str := ["abs", "int", "str", "repr", "tuple", "list", "sorted", "sum", "any", "all", "max", "min", "len", "range", "zip", "enumerate", "set", "isinstance", "bool", "dict"]
/-- what a body's context gives -/
structure Gd (Γ : Gam) (N : List Str) (sc : Scope) (X : Cx) : Prop where
  calm : X.calm = true
  nm : X.N = N
  nd : N.Nodup
  sc : X.env.scope = sc
  gd : X.A.guards = some []
  un : X.A.units + 200 < cLine
  bl : ∀ x ∈ bnames, X.mg x = none
  gl : ∀ x d, Γ x = some d → ∃ u v, X.mg x = some u ∧ RelV v u ∧ ∀ G, Dq G v d
section
variable {Γ : Gam} {N : List Str} {sc : Scope} {X : Cx}
theorem Gd.vis (g : Gd Γ N sc X) {x : Str} (h : visB sc x = true) : Vis X.env.scope x := by
  rw [g.sc]
  unfold visB at h
  unfold Vis
  split at h <;> first | exact .inl (by assumption) | exact .inr (.inl (by assumption)) | exact .inr (.inr (by assumption)) | cases h
theorem Gd.glo (g : Gd Γ N sc X) {x : Str} (h : glB sc x = true) : Gl X x := by
  show X.env.scope.names.lookup x = some .globalImplicit
  rw [g.sc]
  unfold glB at h
  split at h
  · assumption
  · cases h
theorem nm1 {x : Str} (h : nmB x = true) : (x == ("__debug__" : Str)) = false := by
  unfold nmB at h
  simp only [Bool.and_eq_true, Bool.not_eq_true'] at h
  exact h.1.1
theorem nm2 {x : Str} (h : nmB x = true) : (x == ("__classdict__" : Str)) = false := by
  unfold nmB at h
  simp only [Bool.and_eq_true, Bool.not_eq_true'] at h
  exact h.1.2
def okSE (N : List Str) (sc : Scope) : SE → Expr → Bool
  | .var i, e => (match e with | .Name x _ => decide (N[i]? = some x) && visB sc x && nmB x | _ => false)
  | .int n, e => (match e with | .Constant (.int m) _ _ => decide (m = n) | _ => false)
  | .str z, e => (match e with | .Constant (.str w) _ _ => decide (w = z) | _ => false)
  | .bl b, e => (match e with | .Constant (.bool c) _ _ => c == b | _ => false)
  | .non, e => (match e with | .Constant .none _ _ => true | _ => false)
  | .glob y, e => (match e with | .Name x _ => decide (x = y) && glB sc x && nmB x | _ => false)
  | .add a b, e => (match e with | .BinOp l .Add r _ => okSE N sc a l && okSE N sc b r | _ => false)
  | .sub a b, e => (match e with | .BinOp l .Sub r _ => okSE N sc a l && okSE N sc b r | _ => false)
  | .neg a, e => (match e with | .UnaryOp .USub l _ => okSE N sc a l | _ => false)
  | .idx a b, e => (match e with | .Subscript l r _ => okSE N sc a l && okSE N sc b r && plainE r | _ => false)
  | .len a, e => (match e with | .Call (.Name f _) [l] [] _ => decide (f = "len") && glB sc f && okSE N sc a l && plainE l | _ => false)
def liftS (K : PySem.W.Frag) (Γ : Gam) (s : SE) : TE := fun σ H R => ∃ F G ρ L x, Sta K F G H ρ σ L ∧ sv Γ ρ s = some x ∧ ∀ v M, OR K G H x v M → (∀ a ∈ M, a ∈ L) → R v H
theorem join_some {ρ : Env'} {i : Nat} {x : Tv} (h : (ρ[i]?).join = some x) : ρ[i]? = some (some x) := by
  cases e : ρ[i]? with
  | none => rw [e] at h; cases h
  | some o => rw [e] at h; cases o with
    | none => cases h
    | some y => cases h; rfl
theorem Dq.int_of {G : Hp} {v : V} {i : Int} (h : Dq G v (.int i)) : v = .int i := by cases h; rfl
theorem Dq.str_of {G : Hp} {v : V} {i : Str} (h : Dq G v (.str i)) : v = .str i := by cases h; rfl
theorem Dq.bl_of {G : Hp} {v : V} {i : Bool} (h : Dq G v (.bool i)) : v = .bl i := by cases h; rfl
theorem OR.dq {K : PySem.W.Frag} {G H : Hp} {v : V} {d : PyData} {M : List Addr} (h : OR K G H (.d d) v M) : Dq G v d ∧ M = [] := by
  cases h with
  | d h => exact ⟨h, rfl⟩
/-- the item of what is read at k: by the heap -/
theorem item_at {K : PySem.W.Frag} {G H : Hp} {x z : Tv} {v : V} {M : List Addr} {k : Int} (g : Same G H) (r : OR K G H x v M) (h : x.item k = some z) :
    ∃ p vs u M', v = .ref p ∧ (SqL K H p vs ∨ SqT K H p vs) ∧ atI vs k = some u ∧ OR K G H z u M' ∧ ∀ a ∈ M', a ∈ M := by
  cases r with
  | d r =>
    cases r with
    | lst hs ha =>
      have h : (atI _ k).map Tv.d = some z := h
      cases e : atI _ k with
      | none => rw [e] at h; cases h
      | some y =>
        rw [e] at h; cases h
        unfold atI at e
        cases e1 : ixN _ k with
        | none => rw [e1] at e; cases e
        | some j =>
          rw [e1] at e
          obtain ⟨u, h1, h2⟩ := ha.get (i := j) e
          refine ⟨_, _, u, [], rfl, .inl (SqL.of (g _ _ hs)), ?_, .d h2, fun a ha => absurd ha (by simp)⟩
          unfold atI
          rw [ha.length, e1]
          exact h1
    | tup hs ha =>
      have h : (atI _ k).map Tv.d = some z := h
      cases e : atI _ k with
      | none => rw [e] at h; cases h
      | some y =>
        rw [e] at h; cases h
        unfold atI at e
        cases e1 : ixN _ k with
        | none => rw [e1] at e; cases e
        | some j =>
          rw [e1] at e
          obtain ⟨u, h1, h2⟩ := ha.get (i := j) e
          refine ⟨_, _, u, [], rfl, .inr (hs.grow g).sq, ?_, .d h2, fun a ha => absurd ha (by simp)⟩
          unfold atI
          rw [ha.length, e1]
          exact h1
    | _ => cases h
  | own hs hn ha =>
    have e : atI _ k = some z := h
    unfold atI at e
    cases e1 : ixN _ k with
    | none => rw [e1] at e; cases e
    | some j =>
      rw [e1] at e
      obtain ⟨u, M', h1, h2, h3⟩ := ha.get (i := j) e
      refine ⟨_, _, u, M', rfl, .inl (SqL.of hs), ?_, h2, fun a ha => List.mem_cons_of_mem _ (h3 a ha)⟩
      unfold atI
      rw [← ha.length, e1]
      exact h1
  | scr _ => cases h
  | fn _ => cases h
  | map _ _ _ => cases h
theorem len_at {K : PySem.W.Frag} {G H : Hp} {x : Tv} {v : V} {M : List Addr} {n : Nat} (g : Same G H) (r : OR K G H x v M) (h : x.len = some n) :
    ∃ p vs, v = .ref p ∧ (SqL K H p vs ∨ SqT K H p vs) ∧ vs.length = n := by
  cases r with
  | d r =>
    cases r with
    | lst hs ha => cases h; exact ⟨_, _, rfl, .inl (SqL.of (g _ _ hs)), ha.length⟩
    | tup hs ha => cases h; exact ⟨_, _, rfl, .inr (hs.grow g).sq, ha.length⟩
    | _ => cases h
  | own hs hn ha => cases h; exact ⟨_, _, rfl, .inl (SqL.of hs), ha.length.symm⟩
  | scr hs => cases h; exact ⟨_, _, rfl, .inl (g.seq hs), by simp⟩
  | fn _ => cases h
  | map _ _ _ => cases h
theorem sv_add {ρ : Env'} {a b : SE} {x : Tv} (h : sv Γ ρ (.add a b) = some x) : ∃ i j, sv Γ ρ a = some (.d (.int i)) ∧ sv Γ ρ b = some (.d (.int j)) ∧ x = .d (.int (i + j)) := by
  rw [sv] at h
  split at h
  · rename_i i j e1 e2; exact ⟨i, j, e1, e2, (Option.some.inj h).symm⟩
  · cases h
theorem sv_sub {ρ : Env'} {a b : SE} {x : Tv} (h : sv Γ ρ (.sub a b) = some x) : ∃ i j, sv Γ ρ a = some (.d (.int i)) ∧ sv Γ ρ b = some (.d (.int j)) ∧ x = .d (.int (i - j)) := by
  rw [sv] at h
  split at h
  · rename_i i j e1 e2; exact ⟨i, j, e1, e2, (Option.some.inj h).symm⟩
  · cases h
theorem sv_neg {ρ : Env'} {a : SE} {x : Tv} (h : sv Γ ρ (.neg a) = some x) : ∃ i, sv Γ ρ a = some (.d (.int i)) ∧ x = .d (.int (-i)) := by
  rw [sv] at h
  split at h
  · rename_i i e1; exact ⟨i, e1, (Option.some.inj h).symm⟩
  · cases h
theorem sv_idx {ρ : Env'} {a b : SE} {z : Tv} (h : sv Γ ρ (.idx a b) = some z) : ∃ x k, sv Γ ρ a = some x ∧ sv Γ ρ b = some (.d (.int k)) ∧ x.item k = some z := by
  rw [sv] at h
  split at h
  · rename_i x k e1 e2; exact ⟨x, k, e1, e2, h⟩
  · cases h
theorem sv_len {ρ : Env'} {a : SE} {z : Tv} (h : sv Γ ρ (.len a) = some z) : ∃ x n, sv Γ ρ a = some x ∧ x.len = some n ∧ z = .d (.int n) := by
  rw [sv] at h
  split at h
  · rename_i x e1
    cases e : x.len with
    | none => rw [e] at h; cases h
    | some n => rw [e] at h; exact ⟨x, n, e1, e, (Option.some.inj h).symm⟩
  · cases h
theorem sv_glob {ρ : Env'} {y : Str} {z : Tv} (h : sv Γ ρ (.glob y) = some z) : ∃ d, Γ y = some d ∧ z = .d d := by
  rw [sv] at h
  cases e : Γ y with
  | none => rw [e] at h; cases h
  | some d => rw [e] at h; exact ⟨d, rfl, (Option.some.inj h).symm⟩
/-- simple expressions are read as they say -/
theorem se_ok (g : Gd Γ N sc X) : ∀ (s : SE) (e : Expr), okSE N sc s e = true → PE X e (liftS X.K Γ s)
  | .var i, e, h => by
    cases e with
    | Name x pos =>
      have h : (decide (N[i]? = some x) && visB sc x && nmB x) = true := h
      simp only [Bool.and_eq_true, decide_eq_true_eq] at h
      refine PE.imp (pe_var (by rw [g.nm]; exact h.1.1) (g.vis h.1.2) (nm1 h.2) (nm2 h.2)) fun σ H R ⟨F, G, ρ, L, x, s, e, k⟩ => ?_
      obtain ⟨v, P, M, S, e1, e2, r, _⟩ := s.sr.at (join_some e)
      exact ⟨v, e2, k v M r fun a ha => by rw [e1]; simp [ha]⟩
    | _ => exact nomatch (show false = true from h)
  | .int n, e, h => by
    cases e with
    | Constant c j pos =>
      cases c with
      | int m =>
        have h : decide (m = n) = true := h
        cases of_decide_eq_true h
        exact PE.imp pe_int fun σ H R ⟨F, G, ρ, L, x, s, e, k⟩ => by cases e; exact k _ [] (.d (.int _)) (fun a ha => absurd ha (by simp))
      | _ => exact nomatch (show false = true from h)
    | _ => exact nomatch (show false = true from h)
  | .str n, e, h => by
    cases e with
    | Constant c j pos =>
      cases c with
      | str m =>
        have h : decide (m = n) = true := h
        cases of_decide_eq_true h
        exact PE.imp pe_str fun σ H R ⟨F, G, ρ, L, x, s, e, k⟩ => by cases e; exact k _ [] (.d (.str _)) (fun a ha => absurd ha (by simp))
      | _ => exact nomatch (show false = true from h)
    | _ => exact nomatch (show false = true from h)
  | .bl n, e, h => by
    cases e with
    | Constant c j pos =>
      cases c with
      | bool m =>
        have h : (m == n) = true := h
        have e : m = n := by simpa using h
        cases e
        exact PE.imp pe_bl fun σ H R ⟨F, G, ρ, L, x, s, e, k⟩ => by cases e; exact k _ [] (.d (.bl _)) (fun a ha => absurd ha (by simp))
      | _ => exact nomatch (show false = true from h)
    | _ => exact nomatch (show false = true from h)
  | .non, e, h => by
    cases e with
    | Constant c j pos =>
      cases c with
      | none => exact PE.imp pe_non fun σ H R ⟨F, G, ρ, L, x, s, e, k⟩ => by cases e; exact k _ [] (.d .non) (fun a ha => absurd ha (by simp))
      | _ => exact nomatch (show false = true from h)
    | _ => exact nomatch (show false = true from h)
  | .glob y, e, h => by
    cases e with
    | Name x pos =>
      have h : (decide (x = y) && glB sc x && nmB x) = true := h
      simp only [Bool.and_eq_true, decide_eq_true_eq] at h
      obtain ⟨⟨rfl, h2⟩, h3⟩ := h
      refine ⟨fun pins s σ H R I ⟨F, G, ρ, L, z, st, e, k⟩ => ?_⟩
      obtain ⟨d, e1, rfl⟩ := sv_glob e
      obtain ⟨u, v, hm, r, dq⟩ := g.gl _ _ e1
      exact (pe_glob (g.glo h2) hm r (nm1 h3)).run pins s σ H R I (k v [] (.d (dq G)) fun a ha => absurd ha (by simp))
    | _ => exact nomatch (show false = true from h)
  | .add a b, e, h => by
    cases e with
    | BinOp l o r pos =>
      cases o with
      | Add =>
        have h : (okSE N sc a l && okSE N sc b r) = true := h
        rw [Bool.and_eq_true] at h
        refine PE.imp (pe_op op_add (se_ok g a l h.1) (se_ok g b r h.2)) fun σ H R ⟨F, G, ρ, L, x, s, e, k⟩ => ?_
        obtain ⟨i, j, e1, e2, rfl⟩ := sv_add e
        refine ⟨F, G, ρ, L, _, s, e1, fun v M r1 _ => ⟨F, G, ρ, L, _, s, e2, fun u M' r2 _ => ⟨i, j, r1.dq.1.int_of, r2.dq.1.int_of, k _ [] (.d (.int _)) fun a ha => absurd ha (by simp)⟩⟩⟩
      | _ => exact nomatch (show false = true from h)
    | _ => exact nomatch (show false = true from h)
  | .sub a b, e, h => by
    cases e with
    | BinOp l o r pos =>
      cases o with
      | Sub =>
        have h : (okSE N sc a l && okSE N sc b r) = true := h
        rw [Bool.and_eq_true] at h
        refine PE.imp (pe_op op_sub (se_ok g a l h.1) (se_ok g b r h.2)) fun σ H R ⟨F, G, ρ, L, x, s, e, k⟩ => ?_
        obtain ⟨i, j, e1, e2, rfl⟩ := sv_sub e
        refine ⟨F, G, ρ, L, _, s, e1, fun v M r1 _ => ⟨F, G, ρ, L, _, s, e2, fun u M' r2 _ => ⟨i, j, r1.dq.1.int_of, r2.dq.1.int_of, k _ [] (.d (.int _)) fun a ha => absurd ha (by simp)⟩⟩⟩
      | _ => exact nomatch (show false = true from h)
    | _ => exact nomatch (show false = true from h)
  | .neg a, e, h => by
    cases e with
    | UnaryOp o l pos =>
      cases o with
      | USub =>
        have h : okSE N sc a l = true := h
        refine PE.imp (pe_un un_neg (se_ok g a l h)) fun σ H R ⟨F, G, ρ, L, x, s, e, k⟩ => ?_
        obtain ⟨i, e1, rfl⟩ := sv_neg e
        exact ⟨F, G, ρ, L, _, s, e1, fun v M r1 _ => ⟨i, r1.dq.1.int_of, k _ [] (.d (.int _)) fun a ha => absurd ha (by simp)⟩⟩
      | _ => exact nomatch (show false = true from h)
    | _ => exact nomatch (show false = true from h)
  | .idx a b, e, h => by
    cases e with
    | Subscript l r pos =>
      have h : (okSE N sc a l && okSE N sc b r && plainE r) = true := h
      simp only [Bool.and_eq_true] at h
      refine PE.imp (pe_ix (ix_list.or ix_tup) (se_ok g a l h.1.1) (se_ok g b r h.1.2) (ix_plain h.2)) fun σ H R ⟨F, G, ρ, L, z, s, e, k⟩ => ?_
      obtain ⟨x, n, e1, e2, e3⟩ := sv_idx e
      refine ⟨F, G, ρ, L, _, s, e1, fun v M r1 h1 => ⟨F, G, ρ, L, _, s, e2, fun u M' r2 _ => ?_⟩⟩
      obtain ⟨p, vs, w, M2, rfl, hq, hat, r3, h3⟩ := item_at s.gh r1 e3
      have q := k w M2 r3 fun a ha => h1 a (h3 a ha)
      rcases hq with hq | hq
      · exact .inl ⟨p, vs, n, w, rfl, r2.dq.1.int_of, hq, hat, q⟩
      · exact .inr ⟨p, vs, n, w, rfl, r2.dq.1.int_of, hq, hat, q⟩
    | _ => exact nomatch (show false = true from h)
  | .len a, e, h => by
    cases e with
    | Call f args kws pos =>
      cases f with
      | Name x px =>
        match args, kws, h with
        | [l], [], h =>
          have h : (decide (x = "len") && glB sc x && okSE N sc a l && plainE l) = true := h
          simp only [Bool.and_eq_true, decide_eq_true_eq] at h
          obtain ⟨⟨⟨rfl, h2⟩, h3⟩, h4⟩ := h
          refine PE.imp (pe_callB call_len_seq (g.glo h2) (g.bl _ (by decide)) PySem.boot_len (pa_cons (se_ok g a l h3) pa_nil (starEach_plain h4)) (by decide) (by decide) (starEach_plain h4) rfl) fun σ H R ⟨F, G, ρ, L, z, s, e, k⟩ => ?_
          obtain ⟨y, n, e1, e2, rfl⟩ := sv_len e
          refine ⟨F, G, ρ, L, _, s, e1, fun v M r1 h1 => ?_⟩
          obtain ⟨p, vs, rfl, hq, hl⟩ := len_at s.gh r1 e2
          exact ⟨p, vs, rfl, hq, by rw [hl]; exact k _ [] (.d (.int _)) fun a ha => absurd ha (by simp)⟩
      | _ => cases args <;> exact nomatch (show false = true from h)
    | _ => exact nomatch (show false = true from h)
end
end Tr
set_option Elab.async false
set_option linter.all false
set_option maxRecDepth 100000
set_option maxHeartbeats 1000000
namespace Tr
open PySem PySem.Spec PyProof.Rows L2
section
variable {K : PySem.W.Frag} {F G H : Hp} {σ : L2.St} {ρ : Env'} {L M : List Addr} {Q : Tv → Env' → Prop} {R : V → Hp → Prop}
def Kont (K : PySem.W.Frag) (F G : Hp) (σ : L2.St) (Q : Tv → Env' → Prop) (R : V → Hp → Prop) : Prop :=
  ∀ x v ρ' G' H' L' M, Aft K F G G' H' ρ' σ L' → Val K F G' H' L' x v M → Q x ρ' → R v H'
theorem Kont.step {G1 H1 : Hp} {ρ1 : Env'} {L1 : List Addr} (k : Kont K F G σ Q R) (a : Aft K F G G1 H1 ρ1 σ L1) : Kont K F G1 σ Q R :=
  fun x v ρ' G' H' L' M b q h => k x v ρ' G' H' L' M (a.trans b) q h
theorem Kont.data (k : Kont K F G σ Q R) (s : Sta K F G H ρ σ L) {v : V} {d : PyData} (h : Dq G v d) (q : Q (.d d) ρ) : R v H := k _ _ _ _ _ _ _ (Aft.refl s) (Val.pure h) q
theorem Kont.tup (k : Kont K F G σ Q R) (s : Sta K F G H ρ σ L) {vs : List V} {ds : List PyData} (h : DqAll G vs ds) (q : Q (.d (.tuple ds)) ρ) : NewT R H vs := fun p o hp hn => by
  have a := s.laid (o := .frz o (.tup vs)) hp
  exact k _ _ _ _ _ _ _ a (Val.pure (.tup ⟨o, upd_same, hn⟩ (h.grow a.gg))) q
theorem Kont.lst (k : Kont K F G σ Q R) (s : Sta K F G H ρ σ L) {p : Addr} {vs : List V} {xs : List Tv} (hp : H p = none) (h : ORs K G H xs vs M) (nd : M.Nodup) (fr : ∀ a ∈ M, F a = none) (ap : ∀ a ∈ M, a ∉ L) (q : Q (.own xs) ρ) :
    R (.ref p) (upd H p (.lst vs)) := by
  have a := s.made (o := .lst vs) hp
  have ne : ∀ a ∈ M, a ≠ p := fun a ha z => by
    obtain ⟨⟨x, hx⟩, _⟩ := h.there a ha
    rw [z, hp] at hx
    cases hx
  refine k (.own xs) (.ref p) ρ G _ L (p :: M) a ⟨.own upd_same (s.gh.free hp) (h.step (Same.refl _) (fun a ha => upd_ne (ne a ha)) fun a ha => (h.there a ha).2), ?_, fun b hb => ?_, fun b hb => ?_⟩ q
  · exact List.nodup_cons.mpr ⟨fun hp' => ne p hp' rfl, nd⟩
  · rcases List.mem_cons.mp hb with e | hb
    · rw [e]; exact s.fh.free hp
    · exact fr b hb
  · rcases List.mem_cons.mp hb with e | hb
    · rw [e]
      intro hl
      obtain ⟨⟨x, hx⟩, _⟩ := s.sr.there p hl
      rw [hp] at hx
      cases hx
    · exact ap b hb
theorem ors_data : ∀ {vs : List V} {ds : List PyData}, DqAll G vs ds → ORs K G H (ds.map .d) vs []
  | _, _, .nil => .nil
  | _, _, .cons h t => by
    have := ORs.cons (K := K) (H := H) (OR.d h) (ors_data t)
    simpa using this
theorem Kont.lstD (k : Kont K F G σ Q R) (s : Sta K F G H ρ σ L) {p : Addr} {vs : List V} {ds : List PyData} (hp : H p = none) (h : DqAll G vs ds) (q : Q (.own (ds.map .d)) ρ) : R (.ref p) (upd H p (.lst vs)) :=
  k.lst s hp (ors_data h) List.nodup_nil (fun _ z => absurd z (by simp)) (fun _ z => absurd z (by simp)) q
/-- one value has come -/
def One (K : PySem.W.Frag) (σ : L2.St) (B : Tv → Env' → (Tv → Env' → Prop) → Prop) (v : V) (H : Hp) (R : V → Hp → Prop) : Prop :=
  ∃ F G ρ L x M Q, Sta K F G H ρ σ L ∧ Val K F G H L x v M ∧ B x ρ Q ∧ Kont K F G σ Q R
theorem one_of {w : WE} {B : Tv → Env' → (Tv → Env' → Prop) → Prop} {r : V → Hp → VK → Prop} (h : lift K (fun ρ Q => w ρ fun x ρ1 => B x ρ1 Q) σ H R) (k : ∀ v H1, One K σ B v H1 R → r v H1 R) : lift K w σ H fun v H1 => r v H1 R := by
  obtain ⟨F, G, ρ, L, Q, s, hw, kt⟩ := h
  exact ⟨F, G, ρ, L, _, s, hw, fun x v ρ' G' H' L' M a q hb => k v H' ⟨F, G', ρ', L', x, M, Q, a.st, q, hb, Kont.step kt a⟩⟩
/-- two values have come -/
def Two (K : PySem.W.Frag) (σ : L2.St) (B : Tv → Tv → Env' → (Tv → Env' → Prop) → Prop) (v u : V) (H : Hp) (R : V → Hp → Prop) : Prop :=
  ∃ F G ρ L x y M N Q, Sta K F G H ρ σ L ∧ Val K F G H L x v M ∧ Val K F G H L y u N ∧ (∀ a ∈ N, a ∉ M) ∧ B x y ρ Q ∧ Kont K F G σ Q R
theorem two_of {w w2 : WE} {B : Tv → Tv → Env' → (Tv → Env' → Prop) → Prop} {r : R2} (h : lift K (fun ρ Q => w ρ fun x ρ1 => w2 ρ1 fun y ρ2 => B x y ρ2 Q) σ H R) (k : ∀ v u H2, Two K σ B v u H2 R → r v u H2 R) :
    tOp r (lift K w) (lift K w2) σ H R := by
  obtain ⟨F, G, ρ, L, Q, s, hw, kt⟩ := h
  refine ⟨F, G, ρ, L, _, s, hw, fun x v ρ' G' H' L' M a q hb => ⟨Tr.hold F H' M, G', ρ', L', _, a.st.hold q, hb, fun y u ρ2 G2 H2 L2 N b q2 hc => ?_⟩⟩
  obtain ⟨b1, q1⟩ := Aft.held q b
  obtain ⟨q2', ap⟩ := held_apart q q2
  exact k v u H2 ⟨F, G2, ρ2, L2, x, y, M, N, Q, b1.st, q1, q2', ap, hc, Kont.step kt (a.trans b1)⟩
/-- one value frozen -/
theorem One.frz {x : Tv} {v : V} {d : PyData} (s : Sta K F G H ρ σ L) (q : Val K F G H L x v M) (e : x.frz = some d) : ∃ G', Aft K F G G' H ρ σ L ∧ Dq G' v d :=
  ⟨_, s.frozen q e⟩
theorem Val.after {x y : Tv} {v u : V} {N : List Addr} (s : Sta K F G H ρ σ L) (q : Val K F G H L x v M) (q2 : Val K F G H L y u N) (ap : ∀ a ∈ N, a ∉ M) : Val K F (freeze G H M) H L y u N := by
  refine ⟨q2.r.step (freeze_grow fun a ha => (q.r.there a ha).2) (fun _ _ => rfl) fun a ha => ?_, q2.nd, q2.fr, q2.ap⟩
  rw [freeze_out (ap a ha)]
  exact (q2.r.there a ha).2
theorem Two.frz {x y : Tv} {v u : V} {d e : PyData} {N : List Addr} (s : Sta K F G H ρ σ L) (q : Val K F G H L x v M) (q2 : Val K F G H L y u N) (ap : ∀ a ∈ N, a ∉ M) (hd : x.frz = some d) (he : y.frz = some e) :
    ∃ G', Aft K F G G' H ρ σ L ∧ Dq G' v d ∧ Dq G' u e := by
  obtain ⟨a, h1⟩ := s.frozen q hd
  obtain ⟨b, h2⟩ := a.st.frozen (Val.after s q q2 ap) he
  exact ⟨_, a.trans b, h1.grow b.gg, h2⟩
theorem Dq.lst_of {v : V} {ds : List PyData} (h : Dq G v (.list ds)) : ∃ a vs, v = .ref a ∧ G a = some (.lst vs) ∧ DqAll G vs ds := by
  cases h with
  | lst h1 h2 => exact ⟨_, _, rfl, h1, h2⟩
theorem Dq.tup_of {v : V} {ds : List PyData} (h : Dq G v (.tuple ds)) : ∃ a vs, v = .ref a ∧ TupG G a vs ∧ DqAll G vs ds := by
  cases h with
  | tup h1 h2 => exact ⟨_, _, rfl, h1, h2⟩
theorem Val.int {x : PyData} {v : V} {i : Int} (q : Val K F G H L (.d (.int i)) v M) : v = .int i := q.r.dq.1.int_of
end
section
variable {Γ : Gam} {N : List Str} {sc : Scope} {X : Cx} {l r : Expr} {pos : Pos} {w1 w2 : WE}
def oper : BO → Operator
  | .add => .Add | .sub => .Sub | .mul => .Mult | .fdiv => .FloorDiv | .mod => .Mod | .pow => .Pow
theorem DqAll.append {G : Hp} : ∀ {vs us : List V} {xs ys : List PyData}, DqAll G vs xs → DqAll G us ys → DqAll G (vs ++ us) (xs ++ ys)
  | _, _, _, _, .nil, h => h
  | _, _, _, _, .cons a t, h => .cons a (DqAll.append t h)
theorem DqAll.rep {G : Hp} {vs : List V} {xs : List PyData} (h : DqAll G vs xs) : ∀ k : Nat, DqAll G (List.replicate k vs).flatten (List.replicate k xs).flatten
  | 0 => .nil
  | k + 1 => by
    rw [List.replicate_succ, List.replicate_succ, List.flatten_cons, List.flatten_cons]
    exact h.append (DqAll.rep h k)
theorem DqAll.take {G : Hp} : ∀ {vs : List V} {xs : List PyData} (n : Nat), DqAll G vs xs → DqAll G (vs.take n) (xs.take n)
  | _, _, 0, _ => .nil
  | _, _, _ + 1, .nil => .nil
  | _, _, n + 1, .cons a t => .cons a (DqAll.take n t)
theorem DqAll.drop {G : Hp} : ∀ {vs : List V} {xs : List PyData} (n : Nat), DqAll G vs xs → DqAll G (vs.drop n) (xs.drop n)
  | _, _, 0, h => h
  | _, _, _ + 1, .nil => .nil
  | _, _, n + 1, .cons _ t => DqAll.drop n t
theorem DqAll.reverse {G : Hp} {vs : List V} {xs : List PyData} (h : DqAll G vs xs) : DqAll G vs.reverse xs.reverse := by
  induction vs generalizing xs with
  | nil => cases h; exact .nil
  | cons v vs ih =>
    cases h with
    | cons a t =>
      rw [List.reverse_cons, List.reverse_cons]
      exact (ih t).append (.cons a .nil)
theorem DqAll.cut {G : Hp} {vs : List V} {xs : List PyData} (h : DqAll G vs xs) (lo hi : Option Int) : DqAll G (cutV vs lo hi) (cutD xs lo hi) := by
  unfold cutV cutD
  rw [h.length]
  exact (h.drop _).take _
theorem e_bin (g : Gd Γ N sc X) (o : BO) (ha : PE X l (lift X.K w1)) (hb : PE X r (lift X.K w2)) :
    PE X (.BinOp l (oper o) r pos) (lift X.K fun ρ Q => w1 ρ fun x ρ1 => w2 ρ1 fun y ρ2 => opB o x y fun z => Q z ρ2) := by
  cases o with
  | add =>
    refine PE.imp (pe_op (OpR.or op_add (OpR.or op_add_str (OpR.or of_cat op_cat))) ha hb) fun σ H R h => two_of h fun v u H2 ⟨F, G, ρ, L, x, y, M, N', Q, s, q, q2, ap, hB, k⟩ => ?_
    dsimp only at hB
    unfold opB at hB
    split at hB
    · exact .inl ⟨_, _, q.r.dq.1.int_of, q2.r.dq.1.int_of, k.data s (.int _) hB⟩
    · exact .inr (.inl ⟨_, _, q.r.dq.1.str_of, q2.r.dq.1.str_of, hB.1, k.data s (.str _) hB.2⟩)
    · obtain ⟨p1, vs, rfl, g1, d1⟩ := q.r.dq.1.tup_of
      obtain ⟨p2, us, rfl, g2, d2⟩ := q2.r.dq.1.tup_of
      refine .inr (.inr (.inl ⟨p1, p2, vs, us, rfl, rfl, (g1.grow s.gh).sq, (g2.grow s.gh).sq, by rw [d1.length, d2.length]; exact hB.1, fun e => ?_, fun _ e => ?_, fun e1 e2 => k.tup s (d1.append d2) hB.2⟩))
      · subst e
        have e1 := List.eq_nil_of_length_eq_zero d1.length.symm
        refine k.data s (.tup g2 d2) ?_
        have := hB.2
        rw [e1] at this
        exact this
      · subst e
        have e1 := List.eq_nil_of_length_eq_zero d2.length.symm
        refine k.data s (.tup g1 d1) ?_
        have := hB.2
        rw [e1, List.append_nil] at this
        exact this
    · obtain ⟨xs, ys, e1, e2, hz, hq⟩ := hB
      obtain ⟨G', a, h1, h2⟩ := Two.frz s q q2 ap e1 e2
      obtain ⟨p1, vs, rfl, g1, d1⟩ := h1.lst_of
      obtain ⟨p2, us, rfl, g2, d2⟩ := h2.lst_of
      exact .inr (.inr (.inr ⟨p1, p2, vs, us, rfl, rfl, a.st.gh _ _ g1, a.st.gh _ _ g2, by rw [d1.length, d2.length]; exact hz, fun p hp => (k.step a).lstD a.st hp (d1.append d2) hq⟩))
    all_goals first | contradiction | cases hB
  | sub =>
    refine PE.imp (pe_op op_sub ha hb) fun σ H R h => two_of h fun v u H2 ⟨F, G, ρ, L, x, y, M, N', Q, s, q, q2, ap, hB, k⟩ => ?_
    dsimp only at hB
    unfold opB at hB
    split at hB <;> first
      | exact ⟨_, _, q.r.dq.1.int_of, q2.r.dq.1.int_of, k.data s (.int _) hB⟩
      | contradiction
      | cases hB
  | mul =>
    refine PE.imp (pe_op (OpR.or (OpR.or op_mul op_mulW) (OpR.or op_rep of_rep)) ha hb) fun σ H R h => two_of h fun v u H2 ⟨F, G, ρ, L, x, y, M, N', Q, s, q, q2, ap, hB, k⟩ => ?_
    dsimp only at hB
    unfold opB at hB
    split at hB <;> first
      | exact .inl (hB.1.elim (fun c => .inl ⟨_, _, q.r.dq.1.int_of, q2.r.dq.1.int_of, c, k.data s (.int _) hB.2⟩) fun c => .inr ⟨_, _, q.r.dq.1.int_of, q2.r.dq.1.int_of, c, k.data s (.int _) hB.2⟩)
      | contradiction
      | (obtain ⟨xs, e1, h1, h2, hz, hq⟩ := hB
         obtain ⟨a, h1⟩ := s.frozen q e1
         obtain ⟨p1, vs, rfl, g1, d1⟩ := h1.lst_of
         exact .inr (.inl ⟨p1, _, vs, rfl, q2.r.dq.1.int_of, a.st.gh _ _ g1, by assumption, by assumption, by rw [d1.length]; exact hz, fun p hp => (k.step a).lstD a.st hp (d1.rep _) hq⟩))
      | (rename_i xs kk _
         obtain ⟨hne, h1, h2, hz, hq⟩ := hB
         obtain ⟨p1, vs, rfl, g1, d1⟩ := q.r.dq.1.tup_of
         refine .inr (.inr ⟨p1, kk, vs, rfl, q2.r.dq.1.int_of, (g1.grow s.gh).sq, fun e => hne (List.eq_nil_of_length_eq_zero (by rw [← d1.length, e]; rfl)), h1, h2, by rw [d1.length]; exact hz, fun e => ?_, fun _ => k.tup s (d1.rep _) hq⟩)
         subst e
         refine k.data s (.tup g1 d1) ?_
         have e1 : (List.replicate (1 : Int).toNat xs).flatten = xs := by simp
         rw [e1] at hq
         exact hq)
      | cases hB
  | fdiv =>
    refine PE.imp (pe_op op_fdivW ha hb) fun σ H R h => two_of h fun v u H2 ⟨F, G, ρ, L, x, y, M, N', Q, s, q, q2, ap, hB, k⟩ => ?_
    dsimp only at hB
    unfold opB at hB
    split at hB <;> first
      | exact ⟨_, _, q.r.dq.1.int_of, q2.r.dq.1.int_of, hB.1, k.data s (.int _) hB.2⟩
      | contradiction
      | cases hB
  | mod =>
    refine PE.imp (pe_op op_mod ha hb) fun σ H R h => two_of h fun v u H2 ⟨F, G, ρ, L, x, y, M, N', Q, s, q, q2, ap, hB, k⟩ => ?_
    dsimp only at hB
    unfold opB at hB
    split at hB <;> first
      | exact ⟨_, _, q.r.dq.1.int_of, q2.r.dq.1.int_of, hB.1, k.data s (.int _) hB.2⟩
      | contradiction
      | cases hB
  | pow =>
    refine PE.imp (pe_op op_pow ha hb) fun σ H R h => two_of h fun v u H2 ⟨F, G, ρ, L, x, y, M, N', Q, s, q, q2, ap, hB, k⟩ => ?_
    dsimp only at hB
    unfold opB at hB
    split at hB <;> first
      | exact ⟨_, _, q.r.dq.1.int_of, q2.r.dq.1.int_of, hB.1, k.data s (.int _) hB.2⟩
      | contradiction
      | cases hB
end
end Tr
set_option Elab.async false
set_option linter.all false
set_option maxRecDepth 100000
set_option maxHeartbeats 1000000
namespace Tr
open PySem PySem.Spec PyProof.Rows L2
mutual
theorem shal_plain : ∀ (n : Nat) (d : PyData), shal n d = true → d.plain = true ∧ d.depth ≤ n
  | _, .none, _ => ⟨rfl, Nat.zero_le _⟩
  | _, .bool _, _ => ⟨rfl, Nat.zero_le _⟩
  | _, .int _, _ => ⟨rfl, Nat.zero_le _⟩
  | _, .str _, _ => ⟨rfl, Nat.zero_le _⟩
  | 0, .list _, h => by simp [shal] at h
  | 0, .tuple _, h => by simp [shal] at h
  | n + 1, .list xs, h => by
    have h : xs.all (shal n) = true := by simpa [shal] using h
    have := shal_plainAll n xs h
    exact ⟨by simpa [PyData.plain] using this.1, by simp only [PyData.depth]; omega⟩
  | n + 1, .tuple xs, h => by
    have h : xs.all (shal n) = true := by simpa [shal] using h
    have := shal_plainAll n xs h
    exact ⟨by simpa [PyData.plain] using this.1, by simp only [PyData.depth]; omega⟩
  | n, .dict _, h => by simp [shal] at h
theorem shal_plainAll : ∀ (n : Nat) (xs : List PyData), xs.all (shal n) = true → PyData.plainAll xs = true ∧ PyData.depthAll xs ≤ n
  | _, [], _ => ⟨rfl, Nat.zero_le _⟩
  | n, x :: xs, h => by
    rw [List.all_cons, Bool.and_eq_true] at h
    have h1 := shal_plain n x h.1
    have h2 := shal_plainAll n xs h.2
    exact ⟨by simp [PyData.plainAll, h1.1, h2.1], by simp only [PyData.depthAll]; omega⟩
end
section
variable {X : Cx}
theorem key_reads {h : Heap} {k : Key} {u : Value} (e : keyIs k u = true) : Reads h u (kD k) [] := by
  rcases keyIs_shape e with ⟨i, t, rfl, rfl⟩ | ⟨x, t, rfl, rfl⟩
  · exact .int i t
  · exact .str x t
theorem keys_read {P : Program} {w : World} {h : Heap} : ∀ {es : List DictEntry} {kvs : List (Key × Value)} {vs : List (Key × PyData)}, Pairs (mixKind P w) es kvs → kvs.map (·.1) = vs.map (·.1) → ReadsAll h (es.map (·.key)) ((vs.map kvD).map (·.1)) []
  | _, _, [], .nil, _ => .nil
  | _, _, v :: vs, .cons e _ t, q => by
    simp only [List.map_cons, List.cons.injEq] at q
    have := ReadsAll.cons (h := h) (key_reads e) (keys_read t q.2)
    rw [q.1] at this
    exact this
  | _, _, _ :: _, .nil, q => by simp at q
  | _, _, [], .cons _ _ _, q => by simp at q
theorem vals_pairs {P : Program} {w : World} : ∀ {es : List DictEntry} {kvs : List (Key × Value)}, Pairs (mixKind P w) es kvs → es.map (·.val) = kvs.map (·.2)
  | _, _, .nil => rfl
  | _, _, .cons _ e t => by rw [List.map_cons, List.map_cons, e, vals_pairs t]
theorem kv_vals : ∀ {vs : List (Key × V)} {us : List (Key × Value)}, KV vs us → Vals (vs.map (·.2)) (us.map (·.2))
  | _, _, .nil => .nil
  | _, _, .cons h t => .cons h.2 (kv_vals t)
theorem kvD_snd (kvs : List (Key × PyData)) : (kvs.map kvD).map (·.2) = kvs.map (·.2) := by rw [List.map_map]; rfl
mutual
theorem Dq.readsT {pins : List (Addr × Obj)} {σ : L2.St} {H : Hp} {s : Shared} (I : Inv X pins σ H s) : ∀ {v : V} {d : PyData} {u : Value}, Dq H v d → RelV v u → ∃ as, Reads s.heap u d as
  | _, _, _, .non, r => by
    cases r
    exact ⟨_, Reads.none⟩
  | _, _, _, .bl b, r => by
    cases r
    exact ⟨_, Reads.bool b⟩
  | _, _, _, .int i, r => by
    obtain ⟨t, rfl⟩ := r
    exact ⟨_, Reads.int i t⟩
  | _, _, _, .str x, r => by
    obtain ⟨t, rfl⟩ := r
    exact ⟨_, Reads.str x t⟩
  | _, _, _, .lst hs ha, r => by
    cases r
    obtain ⟨its, rv, ⟨o, n, ho, hc, _, hd⟩, _⟩ := I.list (SqL.of hs)
    obtain ⟨as, hr⟩ := DqAll.readsT I ha rv
    exact ⟨_, Reads.list ho hc hd hr⟩
  | _, _, _, .tup hs ha, r => by
    cases r
    obtain ⟨its, rv, ⟨o, ho, hc, n, hd⟩, _⟩ := I.tuple hs.sq
    obtain ⟨as, hr⟩ := DqAll.readsT I ha rv
    exact ⟨_, Reads.tuple ho hc hd hr⟩
  | _, _, _, .dct (kvs := kvs) hs e ha, r => by
    cases r
    obtain ⟨_, _, us, rel, o, es, ep, ho, hx, hd, _, hp, _⟩ := dk_of I.hok hs
    obtain ⟨as, hr⟩ := DqAll.readsT I ha (kv_vals rel)
    rw [← vals_pairs hp, ← kvD_snd] at hr
    exact ⟨_, Reads.dict ho hx.1 hd (keys_read hp (rel.keys.symm.trans e)) hr⟩
theorem DqAll.readsT {pins : List (Addr × Obj)} {σ : L2.St} {H : Hp} {s : Shared} (I : Inv X pins σ H s) : ∀ {vs : List V} {ds : List PyData} {us : List Value}, DqAll H vs ds → Vals vs us → ∃ as, ReadsAll s.heap us ds as
  | _, _, _, .nil, r => by
    cases r
    exact ⟨_, ReadsAll.nil⟩
  | _, _, _, .cons h1 h2, r => by
    cases r with
    | cons r1 r2 =>
      obtain ⟨as, q1⟩ := Dq.readsT I h1 r1
      obtain ⟨bs, q2⟩ := DqAll.readsT I h2 r2
      exact ⟨_, ReadsAll.cons q1 q2⟩
end
theorem dep_kv : ∀ kvs : List (Key × PyData), (kvs.all fun p => match p.2 with
    | .int _ => true
    | _ => false) = true → PyData.depthKv (kvs.map kvD) = 0
  | [], _ => rfl
  | (k, d) :: r, h => by
    rw [List.all_cons, Bool.and_eq_true] at h
    have := dep_kv r h.2
    cases d <;> first | exact Bool.noConfusion h.1 | skip
    cases k <;> simp only [List.map_cons, kvD, kD, PyData.depthKv, PyData.depth, this] <;> rfl
theorem all_kvD (kvs : List (Key × PyData)) : ((kvs.map kvD).all fun p => match p.2 with
    | .int _ => true
    | _ => false) = kvs.all fun p => match p.2 with
    | .int _ => true
    | _ => false := by
  rw [List.all_map]
  rfl
theorem ints_reads0 {H : Hp} {h : Heap} : ∀ {vs : List V} {us : List Value} {kvs : List (Key × PyData)}, DqAll H vs (kvs.map (·.2)) → Vals vs us → (kvs.all fun p => match p.2 with
    | .int _ => true
    | _ => false) = true → ReadsAll h us (kvs.map (·.2)) []
  | [], _, [], _, .nil, _ => .nil
  | _, _, [], .nil, .nil, _ => .nil
  | _, _, (k, d) :: r, .cons h1 h2, .cons r1 r2, e => by
    rw [List.all_cons, Bool.and_eq_true] at e
    cases h1 <;> first | exact Bool.noConfusion e.1 | skip
    obtain ⟨t, rfl⟩ := r1
    exact ReadsAll.cons (.int _ t) (ints_reads0 h2 r2 e.2)
mutual
theorem Dq.readsN {pins : List (Addr × Obj)} {σ : L2.St} {H : Hp} {s : Shared} (I : Inv X pins σ H s) : ∀ (n : Nat) {v : V} {d : PyData} {u : Value}, Dq H v d → tupD n d = true → RelV v u → ∃ as, Reads s.heap u d as ∧ sysModules ∉ as ∧ d.depth ≤ n
  | n, _, _, _, .non, _, r => by
    cases r
    exact ⟨_, Reads.none, by simp, Nat.zero_le _⟩
  | n, _, _, _, .bl b, _, r => by
    cases r
    exact ⟨_, Reads.bool b, by simp, Nat.zero_le _⟩
  | n, _, _, _, .int i, _, r => by
    obtain ⟨t, rfl⟩ := r
    exact ⟨_, Reads.int i t, by simp, Nat.zero_le _⟩
  | n, _, _, _, .str x, _, r => by
    obtain ⟨t, rfl⟩ := r
    exact ⟨_, Reads.str x t, by simp, Nat.zero_le _⟩
  | n, _, _, _, .lst hs ha, h, r => by
    cases n <;> simp [tupD] at h
  | 0, _, _, _, .tup hs ha, h, r => by simp [tupD] at h
  | n + 1, _, _, _, .tup (ds := ds) hs ha, h, r => by
    have h : ds.all (tupD n) = true := by simpa [tupD] using h
    cases r
    obtain ⟨its, rv, ⟨o, ho, hc, n', hd⟩, _⟩ := I.tuple hs.sq
    obtain ⟨as, hr, hn, hdp⟩ := DqAll.readsN I n ha h rv
    exact ⟨_, Reads.tuple ho hc hd hr, hn, by simp only [PyData.depth]; omega⟩
  | n, _, _, _, .dct (a := a) (kvs := kvs) hs e ha, h, r => by
    have h : decide (2 ≤ n) = true ∧ (kvs.all fun p => match p.2 with
        | .int _ => true
        | _ => false) = true := by
      rw [← all_kvD]
      cases n <;> (rw [tupD, Bool.and_eq_true] at h; exact h)
    have h2 := of_decide_eq_true h.1
    cases r
    obtain ⟨_, hsy, us, rel, o, es, ep, ho, hx, hd, _, hp, _⟩ := dk_of I.hok hs
    have hr := ints_reads0 (h := s.heap) ha (kv_vals rel) h.2
    rw [← vals_pairs hp, ← kvD_snd] at hr
    have hn : a ≠ sysModules := fun z => by
      rw [z] at hsy
      simp at hsy
    refine ⟨_, Reads.dict ho hx.1 hd (keys_read hp (rel.keys.symm.trans e)) hr, fun z => by simp at z; exact hn z.symm, ?_⟩
    simp only [PyData.depth, dep_kv kvs h.2]
    omega
theorem DqAll.readsN {pins : List (Addr × Obj)} {σ : L2.St} {H : Hp} {s : Shared} (I : Inv X pins σ H s) : ∀ (n : Nat) {vs : List V} {ds : List PyData} {us : List Value}, DqAll H vs ds → ds.all (tupD n) = true → Vals vs us → ∃ as, ReadsAll s.heap us ds as ∧ sysModules ∉ as ∧ PyData.depthAll ds ≤ n
  | n, _, _, _, .nil, _, r => by
    cases r
    exact ⟨_, ReadsAll.nil, by simp, Nat.zero_le _⟩
  | n, _, _, _, .cons h1 h2, h, r => by
    rw [List.all_cons, Bool.and_eq_true] at h
    cases r with
    | cons r1 r2 =>
      obtain ⟨as, q1, n1, d1⟩ := Dq.readsN I n h1 h.1 r1
      obtain ⟨bs, q2, n2, d2⟩ := DqAll.readsN I n h2 h.2 r2
      exact ⟨_, ReadsAll.cons q1 q2, fun z => by
        rcases List.mem_append.mp z with z | z
        · exact n1 z
        · exact n2 z, by simp only [PyData.depthAll]; omega⟩
end
theorem Dq.reads {pins : List (Addr × Obj)} {σ : L2.St} {H : Hp} {s : Shared} (I : Inv X pins σ H s) {d : PyData} {v : V} {u : Value} (h : Dq H v d) (r : RelV v u) : ∃ as, Reads s.heap u d as := Dq.readsT I h r
def rCmp (o : CO) : R2 := fun v u H Q => ∃ a b, Dq H v a ∧ Dq H u b ∧ cmpD o a b fun k => Q (.bl k) H
def copOf : CO → CmpOp
  | .eq => .Eq | .ne => .NotEq | .lt => .Lt | .le => .LtE | .gt => .Gt | .ge => .GtE | .inn => .In | .nin => .NotIn
theorem op_cmp (hu : X.A.units + 200 < cLine) (o : CO) : OpR X (compareOp (copOf o)) (rCmp o) := by
  intro pins s σ H x y v u Q I rx ry h
  obtain ⟨a, b, ha, hb, h⟩ := h
  obtain ⟨as, r1⟩ := ha.reads I rx
  obtain ⟨bs, r2⟩ := hb.reads I ry
  have fin : ∀ k, Q (.bl k) H → EP X pins σ Q (.bool k) s := fun k q => ⟨.bl k, H, I, rfl, q⟩
  cases o with
  | eq =>
    obtain ⟨h1, h2, q⟩ := h
    have p1 := shal_plain _ _ h1
    have p2 := shal_plain _ _ h2
    exact SeqAt.eq_plain r1 r2 p1.1 p2.1 (by omega) (fin _ q)
  | ne =>
    obtain ⟨h1, h2, q⟩ := h
    have p1 := shal_plain _ _ h1
    have p2 := shal_plain _ _ h2
    exact SeqAt.ne_plain r1 r2 p1.1 p2.1 (by omega) (fin _ q)
  | lt =>
    simp only [cmpD] at h
    unfold ordC at h
    split at h
    · cases ha.int_of; cases hb.int_of
      obtain ⟨t, rfl⟩ := rx
      obtain ⟨t', rfl⟩ := ry
      exact lt_int (fin _ h)
    · obtain ⟨h1, h2, h3, q⟩ := h
      have p1 := shal_plain _ _ h3
      exact PySem.W.lt_data r1 r2 h1 h2 (by omega) (fin _ q)
  | gt =>
    simp only [cmpD] at h
    unfold ordC at h
    split at h
    · cases ha.int_of; cases hb.int_of
      obtain ⟨t, rfl⟩ := rx
      obtain ⟨t', rfl⟩ := ry
      exact gt_int (fin _ h)
    · obtain ⟨h1, h2, h3, q⟩ := h
      have p1 := shal_plain _ _ h3
      exact PySem.W.gt_data r1 r2 h1 h2 (by omega) (fin _ q)
  | le =>
    simp only [cmpD] at h
    unfold ordC at h
    split at h
    · cases ha.int_of; cases hb.int_of
      obtain ⟨t, rfl⟩ := rx
      obtain ⟨t', rfl⟩ := ry
      exact le_int (fin _ h)
    · obtain ⟨h1, h2, h3, q⟩ := h
      have p1 := shal_plain _ _ h3
      exact PySem.W.le_data r1 r2 h1 h2 (by omega) (fin _ q)
  | ge =>
    simp only [cmpD] at h
    unfold ordC at h
    split at h
    · cases ha.int_of; cases hb.int_of
      obtain ⟨t, rfl⟩ := rx
      obtain ⟨t', rfl⟩ := ry
      exact ge_int (fin _ h)
    · obtain ⟨h1, h2, h3, q⟩ := h
      have p1 := shal_plain _ _ h3
      exact PySem.W.ge_data r1 r2 h1 h2 (by omega) (fin _ q)
  | inn =>
    simp only [cmpD] at h
    unfold inC at h
    split at h
    · obtain ⟨h1, h2, q⟩ := h
      have p1 := shal_plain _ _ h1
      have p2 := shal_plain _ _ h2
      simp only [PyData.plain] at p2
      exact SeqAt.in_list_data r2 r1 p2.1 p1.1 (by omega) (fin _ q)
    · obtain ⟨h1, h2, q⟩ := h
      have p1 := shal_plain _ _ h1
      have p2 := shal_plain _ _ h2
      simp only [PyData.plain] at p2
      exact SeqAt.in_tuple_data r2 r1 p2.1 p1.1 (by omega) (fin _ q)
    · cases h
  | nin =>
    simp only [cmpD] at h
    unfold inC at h
    split at h
    · obtain ⟨h1, h2, q⟩ := h
      have p1 := shal_plain _ _ h1
      have p2 := shal_plain _ _ h2
      simp only [PyData.plain] at p2
      exact SeqAt.notIn_list_data r2 r1 p2.1 p1.1 (by omega) (fin _ q)
    · obtain ⟨h1, h2, q⟩ := h
      have p1 := shal_plain _ _ h1
      have p2 := shal_plain _ _ h2
      simp only [PyData.plain] at p2
      exact SeqAt.notIn_tuple_data r2 r1 p2.1 p1.1 (by omega) (fin _ q)
    · cases h
end
section
variable {K : PySem.W.Frag} {F G H : Hp} {σ : L2.St} {ρ : Env'} {L M : List Addr} {Q : Tv → Env' → Prop} {R : V → Hp → Prop}
/-- looked at: the value may be one that a name holds -/
def liftR (K : PySem.W.Frag) (w : WE) : TE := fun σ H R => ∃ F G ρ L Q, Sta K F G H ρ σ L ∧ w ρ Q ∧
  ∀ x v ρ' G' H' L' M, Aft K F G G' H' ρ' σ L' → OR K G' H' x v M → Q x ρ' → R v H'
theorem liftR_of {w : WE} (h : liftR K w σ H R) : lift K w σ H R := by
  obtain ⟨F, G, ρ, L, Q, s, hw, k⟩ := h
  exact ⟨F, G, ρ, L, Q, s, hw, fun x v ρ' G' H' L' M a q hq => k x v ρ' G' H' L' M a q.r hq⟩
theorem liftR_sim {Γ : Gam} {s : SE} (h : liftR K (simR Γ s) σ H R) : liftS K Γ s σ H R := by
  obtain ⟨F, G, ρ, L, Q, s, ⟨x, e, hq⟩, k⟩ := h
  exact ⟨F, G, ρ, L, x, s, e, fun v M r _ => k x v ρ G H L M (Aft.refl s) r hq⟩
theorem sim_lift {Γ : Gam} {s : SE} (hv : s.var? = none) (h : lift K (simV Γ s) σ H R) : liftS K Γ s σ H R := by
  obtain ⟨F, G, ρ, L, Q, s, hq, k⟩ := h
  unfold simV at hq
  split at hq
  · rename_i x e
    exact ⟨F, G, ρ, L, _, s, e, fun v M r _ => Kont.data k s r.dq.1 hq⟩
  · rename_i x e
    refine ⟨F, G, ρ, L, _, s, e, fun v M r _ => ?_⟩
    cases r with
    | scr r => exact k _ _ _ _ _ _ [] (Aft.refl s) ⟨.scr r, List.nodup_nil, fun _ z => absurd z (by simp), fun _ z => absurd z (by simp)⟩ hq
  · split at hq
    · cases hv
    · cases hq
  · cases hq
  · rename_i x e
    split at hq
    · cases hv
    · cases hq
  · cases hq
theorem set_same {α : Type} : ∀ {l : List α} {i : Nat} {x : α}, l[i]? = some x → l.set i x = l
  | [], _, _, h => by simp at h
  | a :: l, 0, x, h => by simp at h; simp [h]
  | a :: l, i + 1, x, h => by simp at h; simp [set_same h]
/-- a name's own list is frozen where it stands -/
theorem Sta.freezeAt {i : Nat} {x : Tv} {d : PyData} (s : Sta K F G H ρ σ L) (e : ρ[i]? = some (some x)) (hd : x.frz = some d) :
    ∃ v G' L', σ[i]? = some (some v) ∧ Aft K F G G' H (ρ.set i (some (.d d))) σ L' ∧ Dq G' v d := by
  obtain ⟨v, P, M, S, e1, e2, r, put, _⟩ := s.sr.at e
  have hM : ∀ a ∈ M, G a = none := fun a ha => (r.there a ha).2
  have hL : ∀ a ∈ P ++ S, a ∈ L ∧ a ∉ M := fun a ha => by
    have nd := s.nd
    rw [e1] at nd
    refine ⟨by rw [e1]; rcases List.mem_append.mp ha with h | h <;> simp [h], fun hm => ?_⟩
    rw [List.append_assoc, List.nodup_append] at nd
    obtain ⟨n1, n2, n3⟩ := nd
    rw [List.nodup_append] at n2
    rcases List.mem_append.mp ha with h | h
    · exact n3 a h a (by simp [hm]) rfl
    · exact n2.2.2 a hm a h rfl
  have dq := r.frozen hM hd fun _ h => h
  refine ⟨v, freeze G H M, P ++ [] ++ S, e2, ⟨⟨?_, ?_, fun a ha => s.fr a (hL a (by simpa using ha)).1, s.fh, freeze_same s.gh, s.tb, s.nt, freeze_nt s.ng fun a ha => r.list a ha⟩, freeze_grow hM, fun a h1 h2 => ?_⟩, dq⟩
  · have := put (G' := freeze G H M) (H' := H) (x' := .d d) (v' := v) (M' := []) (freeze_grow hM) (fun _ _ => rfl) (fun a ha => by rw [freeze_out (hL a ha).2]; exact (s.sr.there a (hL a ha).1).2) (.d dq)
    rwa [set_same e2] at this
  · have nd := s.nd
    rw [e1] at nd
    exact nd.sublist (by simp)
  · by_cases h : a ∈ M
    · exact absurd (s.fr a (by rw [e1]; simp [h])) h1
    · rw [freeze_out h]
      exact h2
end
end Tr
set_option Elab.async false
set_option linter.all false
set_option maxRecDepth 100000
set_option maxHeartbeats 1000000
namespace Tr
open PySem PySem.Spec PyProof.Rows L2
def liftT (K : PySem.W.Frag) (w : WE) : TT := fun σ H R => lift K w σ H fun v H1 => ∃ b, v = .bl b ∧ R b H1
structure PB (X : Cx) (e : Expr) (w : WE) : Prop where
  pe : PE X e (lift X.K w)
  pt : PT X e (liftT X.K w)
structure PBW (X : Cx) (e : Expr) (w : WE) : Prop where
  pe : PE X e (lift X.K w)
  pw : PW X e (liftT X.K w)
theorem PBW.pb {X : Cx} {e : Expr} {w : WE} (h : PBW X e w) : PB X e w := ⟨h.pe, h.pw.pt⟩
theorem PB.val {X : Cx} {e : Expr} {w : WE} (h : PE X e (lift X.K w)) (he : ∀ whole, isTrue e X.env whole = (do let v ← whole; standAt e.pos; holding [v] (truthy v)) := by intro _; rfl) : PB X e w :=
  ⟨h, PT.imp (pt_val h he) fun _ _ _ q => q⟩
/-- a value is frozen whole -/
def wFza (w : WE) : WE := fun ρ Q => w ρ fun x ρ1 => ∃ d, x.frz = some d ∧ Q (.d d) ρ1
/-- what a list holds is frozen -/
def wFzl (w : WE) : WE := fun ρ Q => w ρ fun x ρ1 => ∃ (xs : List Tv) (ds : List PyData), x = .own xs ∧ frzs xs = some ds ∧ Q (.own (ds.map .d)) ρ1
theorem lift_fza {K : PySem.W.Frag} {w : WE} {σ : L2.St} {H : Hp} {R : VK} (h : lift K (wFza w) σ H R) : lift K w σ H R := by
  obtain ⟨F, G, ρ, L, Q, s, hw, k⟩ := h
  refine ⟨F, G, ρ, L, _, s, hw, fun x v ρ1 G1 H1 L1 M a q ⟨d, e, hq⟩ => ?_⟩
  obtain ⟨b, h1⟩ := a.st.frozen q e
  exact k (.d d) v ρ1 _ H1 L1 [] (a.trans b) (Val.pure h1) hq
theorem ors_dat6 {K : PySem.W.Frag} {G H : Hp} : ∀ {vs : List V} {ds : List PyData}, DqAll G vs ds → ORs K G H (ds.map .d) vs []
  | _, _, .nil => .nil
  | _, _, .cons h t => ORs.cons (L := []) (M := []) (.d h) (ors_dat6 t)
theorem lift_fzl {K : PySem.W.Frag} {w : WE} {σ : L2.St} {H : Hp} {R : VK} (h : lift K (wFzl w) σ H R) : lift K w σ H R := by
  obtain ⟨F, G, ρ, L, Q, s, hw, k⟩ := h
  refine ⟨F, G, ρ, L, _, s, hw, fun x v ρ1 G1 H1 L1 M a q ⟨xs, ds, ex, e, hq⟩ => ?_⟩
  subst ex
  obtain ⟨r, nd, fr, ap⟩ := q
  cases r with
  | own hA hG r =>
    rename_i p vs M'
    obtain ⟨nd1, nd2⟩ := List.nodup_cons.mp nd
    have hM : ∀ b ∈ M', G1 b = none := fun b hb => (r.there b hb).2
    have dq := r.frozen hM e fun _ z => z
    have pM : freeze G1 H1 M' p = none := by rw [freeze_out nd1]; exact hG
    refine k (.own (ds.map .d)) (.ref p) ρ1 (freeze G1 H1 M') H1 L1 [p] (a.trans ⟨⟨a.st.sr.step (freeze_grow hM) (fun _ _ => rfl) fun b hb => ?_, a.st.nd, a.st.fr, a.st.fh, freeze_same a.st.gh, a.st.tb, a.st.nt, freeze_nt a.st.ng fun b hb => r.list b hb⟩, freeze_grow hM, fun b h1 h2 => ?_⟩)
      ⟨.own hA pM (ors_dat6 dq), List.nodup_cons.mpr ⟨fun z => (nomatch z), List.nodup_nil⟩, fun b hb => ?_, fun b hb => ?_⟩ hq
    · rw [freeze_out fun h => ap b (List.mem_cons_of_mem _ h) hb]
      exact (a.st.sr.there b hb).2
    · by_cases hb : b ∈ M'
      · exact absurd (fr b (List.mem_cons_of_mem _ hb)) h1
      · rw [freeze_out hb]; exact h2
    · rw [List.mem_singleton.mp hb]; exact fr p List.mem_cons_self
    · rw [List.mem_singleton.mp hb]; exact ap p List.mem_cons_self
theorem PB.fza {X : Cx} {e : Expr} {w : WE} (h : PB X e w) : PB X e (wFza w) := ⟨PE.imp h.pe fun _ _ _ q => lift_fza q, PT.imp h.pt fun _ _ _ q => lift_fza q⟩
theorem PB.fzl {X : Cx} {e : Expr} {w : WE} (h : PB X e w) : PB X e (wFzl w) := ⟨PE.imp h.pe fun _ _ _ q => lift_fzl q, PT.imp h.pt fun _ _ _ q => lift_fzl q⟩
section
variable {Γ : Gam} {N : List Str} {sc : Scope} {X : Cx} {l r m : Expr} {rest : List Expr} {pos : Pos} {w w1 w2 w3 : WE}
theorem e_name (g : Gd Γ N sc X) {i : Nat} {x : Str} (h : (decide (N[i]? = some x) && visB sc x && nmB x) = true) : PE X (.Name x pos) (tVar i) := by
  simp only [Bool.and_eq_true, decide_eq_true_eq] at h
  exact pe_var (by rw [g.nm]; exact h.1.1) (g.vis h.1.2) (nm1 h.2) (nm2 h.2)
theorem okSE_var {i : Nat} {e : Expr} (h : okSE N sc (.var i) e = true) : ∃ x pos, e = .Name x pos ∧ (decide (N[i]? = some x) && visB sc x && nmB x) = true := by
  cases e with
  | Name x pos => exact ⟨x, pos, rfl, h⟩
  | _ => exact nomatch (show false = true from h)
theorem okSE_true {env : Env} : ∀ {s : SE} {e : Expr}, okSE N sc s e = true → ∀ whole, isTrue e env whole = (do let v ← whole; standAt e.pos; holding [v] (truthy v))
  | .var i, e, h => by cases e <;> first | (intro _; rfl) | exact nomatch (show false = true from h)
  | .int i, e, h => by cases e <;> first | (intro _; rfl) | exact nomatch (show false = true from h)
  | .str i, e, h => by cases e <;> first | (intro _; rfl) | exact nomatch (show false = true from h)
  | .bl i, e, h => by cases e <;> first | (intro _; rfl) | exact nomatch (show false = true from h)
  | .non, e, h => by cases e <;> first | (intro _; rfl) | exact nomatch (show false = true from h)
  | .glob i, e, h => by cases e <;> first | (intro _; rfl) | exact nomatch (show false = true from h)
  | .add a b, e, h => by cases e <;> first | (intro _; rfl) | exact nomatch (show false = true from h)
  | .sub a b, e, h => by cases e <;> first | (intro _; rfl) | exact nomatch (show false = true from h)
  | .neg a, e, h => by
    cases e with
    | UnaryOp o l pos => cases o <;> first | (intro _; rfl) | exact nomatch (show false = true from h)
    | _ => exact nomatch (show false = true from h)
  | .idx a b, e, h => by cases e <;> first | (intro _; rfl) | exact nomatch (show false = true from h)
  | .len a, e, h => by cases e <;> first | (intro _; rfl) | exact nomatch (show false = true from h)
theorem e_sim (g : Gd Γ N sc X) {s : SE} {e : Expr} (h : okSE N sc s e = true) : PB X e (simV Γ s) := by
  refine .val ?_ (okSE_true h)
  cases hv : s.var? with
  | none => exact PE.imp (se_ok g s e h) fun _ _ _ q => sim_lift hv q
  | some i =>
    have e1 : s = .var i := by cases s <;> first | (cases hv; rfl) | cases hv
    subst e1
    obtain ⟨x, pos, rfl, h⟩ := okSE_var h
    refine PE.imp (e_name g h) fun σ H R ⟨F, G, ρ, L, Q, s, hq, k⟩ => ?_
    unfold simV at hq
    split at hq
    · rename_i x e
      obtain ⟨v, P, M, S, e1, e2, r, _⟩ := s.sr.at (join_some e)
      exact ⟨v, e2, Kont.data k s r.dq.1 hq⟩
    · rename_i x e
      obtain ⟨v, P, M, S, e1, e2, r, _⟩ := s.sr.at (join_some e)
      refine ⟨v, e2, ?_⟩
      cases r with
      | scr r => exact k _ _ _ _ _ _ [] (Aft.refl s) ⟨.scr r, List.nodup_nil, fun _ z => absurd z (by simp), fun _ z => absurd z (by simp)⟩ hq
    · rename_i x e
      obtain ⟨v, P, M, S, e1, e2, r, _⟩ := s.sr.at (join_some e)
      refine ⟨v, e2, ?_⟩
      cases r with
      | fn r => exact k _ _ _ _ _ _ [] (Aft.refl s) ⟨.fn r, List.nodup_nil, fun _ z => absurd z (by simp), fun _ z => absurd z (by simp)⟩ hq
    · cases hq
    · rename_i x e
      obtain ⟨d, ed, hq⟩ := hq
      obtain ⟨v, G', L', e2, a, dq⟩ := s.freezeAt (join_some e) ed
      exact ⟨v, e2, Kont.data (Kont.step k a) a.st dq hq⟩
    · cases hq
theorem e_look (g : Gd Γ N sc X) {s : SE} {e : Expr} (h : okSE N sc s e = true) : PE X e (liftR X.K (simR Γ s)) := PE.imp (se_ok g s e h) fun _ _ _ q => liftR_sim q
theorem cmpD_mono {o : CO} {a b : PyData} {Q Q' : Bool → Prop} (h : cmpD o a b Q) (k : ∀ x, Q x → Q' x) : cmpD o a b Q' := by
  cases o <;> simp only [cmpD] at h ⊢
  · exact ⟨h.1, h.2.1, k _ h.2.2⟩
  · exact ⟨h.1, h.2.1, k _ h.2.2⟩
  all_goals first
    | (unfold ordC at h ⊢
       split at h
       · exact k _ h
       · exact ⟨h.1, h.2.1, h.2.2.1, k _ h.2.2.2⟩)
    | (unfold inC at h ⊢
       split at h
       · exact ⟨h.1, h.2.1, k _ h.2.2⟩
       · exact ⟨h.1, h.2.1, k _ h.2.2⟩
       · cases h)
theorem e_cmpV (g : Gd Γ N sc X) (o : CO) {i : Nat} (hl : okSE N sc (.var i) l = true) (hb : PE X r (liftR X.K w2)) (pl : plainE r = true) :
    PB X (.Compare l [copOf o] [r] pos) (fun ρ Q => (∃ x, ρ[i]? = some (some x)) ∧ w2 ρ fun y ρ2 => ∃ x, ρ2[i]? = some (some x) ∧ cmpO o x y fun k => Q (.d (.bool k)) ρ2) := by
  obtain ⟨z, p, rfl, h⟩ := okSE_var hl
  have main : ∀ σ H R, lift X.K (fun ρ Q => (∃ x, ρ[i]? = some (some x)) ∧ w2 ρ fun y ρ2 => ∃ x, ρ2[i]? = some (some x) ∧ cmpO o x y fun k => Q (.d (.bool k)) ρ2) σ H R → tOp (rCmp o) (tVar i) (liftR X.K w2) σ H R := by
    rintro σ H R ⟨F, G, ρ, L, Q, s, ⟨⟨x, ex⟩, hw⟩, k⟩
    obtain ⟨v, _, _, _, _, e2, _, _⟩ := s.sr.at ex
    refine ⟨v, e2, F, G, ρ, L, _, s, hw, fun y u ρ2 G2 H2 L2 M a r2 ⟨x2, ex2, c, d, hc, hd, hcmp⟩ => ?_⟩
    obtain ⟨v2, _, _, _, _, e3, r3, _⟩ := a.st.sr.at ex2
    rw [e2] at e3
    cases e3
    exact ⟨c, d, r3.now a.st.gh hc, r2.now a.st.gh hd, cmpD_mono hcmp fun b hb => Kont.data (Kont.step k a) a.st (.bl b) hb⟩
  have pe : PE X (.Compare (.Name z p) [copOf o] [r] pos) (tOp (rCmp o) (tVar i) (liftR X.K w2)) := pe_cmpR (op_cmp g.un o) (e_name g h) hb (behind_plain pl)
  have pt : PT X (.Compare (.Name z p) [copOf o] [r] pos) (tTest (tOp (rCmp o) (tVar i) (liftR X.K w2))) := pt_cmpR (op_cmp g.un o) (e_name g h) hb (behind_plain pl)
  exact ⟨PE.imp pe main, PT.imp pt fun σ H R q => main σ H _ q⟩
theorem e_cmp (g : Gd Γ N sc X) (o : CO) (ha : PE X l (lift X.K w1)) (hb : PE X r (liftR X.K w2)) (pl : plainE r = true) :
    PB X (.Compare l [copOf o] [r] pos) (fun ρ Q => w1 ρ fun x ρ1 => w2 ρ1 fun y ρ2 => cmpO o x y fun k => Q (.d (.bool k)) ρ2) := by
  have main : ∀ σ H R, lift X.K (fun ρ Q => w1 ρ fun x ρ1 => w2 ρ1 fun y ρ2 => cmpO o x y fun k => Q (.d (.bool k)) ρ2) σ H R → tOp (rCmp o) (lift X.K w1) (liftR X.K w2) σ H R := by
    rintro σ H R ⟨F, G, ρ, L, Q, s, hw, k⟩
    refine ⟨F, G, ρ, L, _, s, hw, fun x v ρ1 G1 H1 L1 M a q hb => ⟨Tr.hold F H1 M, G1, ρ1, L1, _, a.st.hold q, hb, fun y u ρ2 G2 H2 L2 M2 b r2 ⟨c, d, hc, hd, hcmp⟩ => ?_⟩⟩
    obtain ⟨b1, q1⟩ := Aft.held q b
    exact ⟨c, d, q1.r.now b1.st.gh hc, r2.now b1.st.gh hd, cmpD_mono hcmp fun z hz => Kont.data (Kont.step k (a.trans b1)) b1.st (.bl z) hz⟩
  exact ⟨PE.imp (pe_cmpR (op_cmp g.un o) ha hb (behind_plain pl)) main, PT.imp (pt_cmpR (op_cmp g.un o) ha hb (behind_plain pl)) fun σ H R q => main σ H _ q⟩
theorem dec_non {G : Hp} {v : V} {d : PyData} (h : Dq G v d) : decide (v = .non) = (isNonD d) := by
  cases h <;> simp [isNonD]
theorem dec_non' {G : Hp} {v : V} {d : PyData} (h : Dq G v d) : (!decide (v = .non)) = (!isNonD d) := by
  cases h <;> simp [isNonD]
theorem e_isN (g : Gd Γ N sc X) (ha : PE X l (liftR X.K w1)) {j : Nat} {p : Pos} : PB X (.Compare l [.Is] [.Constant .none j p] pos) (fun ρ Q => w1 ρ fun x ρ1 => frzT x fun d => Q (.d (.bool (isNonD d))) ρ1) := by
  have main : ∀ σ H R, lift X.K (fun ρ Q => w1 ρ fun x ρ1 => frzT x fun d => Q (.d (.bool (isNonD d))) ρ1) σ H R → tIsN (liftR X.K w1) σ H R := by
    rintro σ H R ⟨F, G, ρ, L, Q, s, hw, k⟩
    refine ⟨F, G, ρ, L, _, s, hw, fun x v ρ1 G1 H1 L1 M a r ⟨d, hd, hq⟩ => ?_⟩
    show R (.bl (decide (v = .non))) H1
    rw [dec_non (r.now a.st.gh hd)]
    exact Kont.data (Kont.step k a) a.st (.bl _) hq
  exact ⟨PE.imp (pe_cmp (pc_isN ha) rfl) main, PT.imp (pt_cmp (pc_isN ha) rfl) fun σ H R q => main σ H _ q⟩
theorem e_notN (g : Gd Γ N sc X) (ha : PE X l (liftR X.K w1)) {j : Nat} {p : Pos} : PB X (.Compare l [.IsNot] [.Constant .none j p] pos) (fun ρ Q => w1 ρ fun x ρ1 => frzT x fun d => Q (.d (.bool (!isNonD d))) ρ1) := by
  have main : ∀ σ H R, lift X.K (fun ρ Q => w1 ρ fun x ρ1 => frzT x fun d => Q (.d (.bool (!isNonD d))) ρ1) σ H R → tNotN (liftR X.K w1) σ H R := by
    rintro σ H R ⟨F, G, ρ, L, Q, s, hw, k⟩
    refine ⟨F, G, ρ, L, _, s, hw, fun x v ρ1 G1 H1 L1 M a r ⟨d, hd, hq⟩ => ?_⟩
    show R (.bl (!decide (v = .non))) H1
    rw [dec_non' (r.now a.st.gh hd)]
    exact Kont.data (Kont.step k a) a.st (.bl _) hq
  exact ⟨PE.imp (pe_cmp (pc_notN ha) rfl) main, PT.imp (pt_cmp (pc_notN ha) rfl) fun σ H R q => main σ H _ q⟩
theorem bl_of {K : PySem.W.Frag} {F G H : Hp} {L M : List Addr} {b : Bool} {v : V} (q : Val K F G H L (.d (.bool b)) v M) : v = .bl b := q.r.dq.1.bl_of
theorem e_and1 (ha : PB X l w) : PBW X (.BoolOp .And [l] pos) (fun ρ Q => w ρ fun x ρ1 => ∃ b, x = .d (.bool b) ∧ Q (.d (.bool b)) ρ1) := by
  have main : ∀ σ H R, lift X.K (fun ρ Q => w ρ fun x ρ1 => ∃ b, x = .d (.bool b) ∧ Q (.d (.bool b)) ρ1) σ H R → lift X.K w σ H R := by
    rintro σ H R ⟨F, G, ρ, L, Q, s, hw, k⟩
    exact ⟨F, G, ρ, L, _, s, hw, fun x v ρ1 G1 H1 L1 M a q ⟨b, e, hq⟩ => by subst e; exact k _ _ _ _ _ _ _ a q hq⟩
  exact ⟨PE.imp (pe_one ha.pe) main, ⟨fun wh pins s σ H R I h => (pw_and1 ha.pt).run wh pins s σ H R I (main σ H _ h)⟩⟩
theorem e_or1 (ha : PB X l w) : PBW X (.BoolOp .Or [l] pos) (fun ρ Q => w ρ fun x ρ1 => ∃ b, x = .d (.bool b) ∧ Q (.d (.bool b)) ρ1) := by
  have main : ∀ σ H R, lift X.K (fun ρ Q => w ρ fun x ρ1 => ∃ b, x = .d (.bool b) ∧ Q (.d (.bool b)) ρ1) σ H R → lift X.K w σ H R := by
    rintro σ H R ⟨F, G, ρ, L, Q, s, hw, k⟩
    exact ⟨F, G, ρ, L, _, s, hw, fun x v ρ1 G1 H1 L1 M a q ⟨b, e, hq⟩ => by subst e; exact k _ _ _ _ _ _ _ a q hq⟩
  exact ⟨PE.imp (pe_one ha.pe) main, ⟨fun wh pins s σ H R I h => (pw_or1 ha.pt).run wh pins s σ H R I (main σ H _ h)⟩⟩
theorem if_bool {c : Bool} {A B : Prop} (h1 : c = true → A) (h2 : c = false → B) : if c = true then A else B := by
  cases c with
  | true => exact h1 rfl
  | false => exact h2 rfl
theorem e_and (ha : PB X l w) (hb : PBW X (.BoolOp .And (m :: rest) pos) w2) :
    PBW X (.BoolOp .And (l :: m :: rest) pos) (fun ρ Q => w ρ fun x ρ1 => ∃ b, x = .d (.bool b) ∧ ((b = true → w2 ρ1 Q) ∧ (b = false → Q (.d (.bool false)) ρ1))) := by
  refine ⟨PE.imp (pe_and ha.pe hb.pe) fun σ H R ⟨F, G, ρ, L, Q, s, hw, k⟩ => ?_, ⟨fun wh pins s σ H R I h => (pw_and ha.pt hb.pw).run wh pins s σ H R I ?_⟩⟩
  · refine ⟨F, G, ρ, L, _, s, hw, fun x v ρ1 G1 H1 L1 M a q ⟨b, e, h1, h2⟩ => ?_⟩
    subst e
    exact ⟨b, bl_of q, if_bool (fun e => ⟨F, G1, ρ1, L1, Q, a.st, h1 e, Kont.step k a⟩) fun e => Kont.data (Kont.step k a) a.st (.bl _) (h2 e)⟩
  · obtain ⟨F, G, ρ, L, Q, s, hw, k⟩ := h
    refine ⟨F, G, ρ, L, _, s, hw, fun x v ρ1 G1 H1 L1 M a q ⟨b, e, h1, h2⟩ => ?_⟩
    subst e
    refine ⟨b, bl_of q, if_bool (fun e => ⟨F, G1, ρ1, L1, Q, a.st, h1 e, Kont.step k a⟩) fun e => ?_⟩
    obtain ⟨b', e', h'⟩ := Kont.data (Kont.step k a) a.st (.bl _) (h2 e)
    cases e'
    exact h'
theorem e_or (ha : PB X l w) (hb : PBW X (.BoolOp .Or (m :: rest) pos) w2) :
    PBW X (.BoolOp .Or (l :: m :: rest) pos) (fun ρ Q => w ρ fun x ρ1 => ∃ b, x = .d (.bool b) ∧ ((b = true → Q (.d (.bool true)) ρ1) ∧ (b = false → w2 ρ1 Q))) := by
  refine ⟨PE.imp (pe_or ha.pe hb.pe) fun σ H R ⟨F, G, ρ, L, Q, s, hw, k⟩ => ?_, ⟨fun wh pins s σ H R I h => (pw_or ha.pt hb.pw).run wh pins s σ H R I ?_⟩⟩
  · refine ⟨F, G, ρ, L, _, s, hw, fun x v ρ1 G1 H1 L1 M a q ⟨b, e, h1, h2⟩ => ?_⟩
    subst e
    exact ⟨b, bl_of q, if_bool (fun e => Kont.data (Kont.step k a) a.st (.bl _) (h1 e)) fun e => ⟨F, G1, ρ1, L1, Q, a.st, h2 e, Kont.step k a⟩⟩
  · obtain ⟨F, G, ρ, L, Q, s, hw, k⟩ := h
    refine ⟨F, G, ρ, L, _, s, hw, fun x v ρ1 G1 H1 L1 M a q ⟨b, e, h1, h2⟩ => ?_⟩
    subst e
    refine ⟨b, bl_of q, if_bool (fun e => ?_) fun e => ⟨F, G1, ρ1, L1, Q, a.st, h2 e, Kont.step k a⟩⟩
    obtain ⟨b', e', h'⟩ := Kont.data (Kont.step k a) a.st (.bl _) (h1 e)
    cases e'
    exact h'
theorem e_not (ha : PB X l w) : PB X (.UnaryOp .Not l pos) (fun ρ Q => w ρ fun x ρ1 => ∃ b, x = .d (.bool b) ∧ Q (.d (.bool (!b))) ρ1) := by
  refine ⟨PE.imp (pe_not ha.pe) fun σ H R ⟨F, G, ρ, L, Q, s, hw, k⟩ => ?_, PT.imp (pt_not ha.pt) fun σ H R ⟨F, G, ρ, L, Q, s, hw, k⟩ => ?_⟩
  · refine ⟨F, G, ρ, L, _, s, hw, fun x v ρ1 G1 H1 L1 M a q ⟨b, e, h1⟩ => ?_⟩
    subst e
    exact ⟨b, bl_of q, Kont.data (Kont.step k a) a.st (.bl _) h1⟩
  · refine ⟨F, G, ρ, L, _, s, hw, fun x v ρ1 G1 H1 L1 M a q ⟨b, e, h1⟩ => ?_⟩
    subst e
    obtain ⟨b', e', h'⟩ := Kont.data (Kont.step k a) a.st (.bl _) h1
    cases e'
    exact ⟨b, bl_of q, h'⟩
theorem pt_ifExp {c a b : Expr} {tc ta tb : TT} (hc : PT X c tc) (ha : PT X a ta) (hb : PT X b tb) : PT X (.IfExp c a b pos) (fun σ H Q => tc σ H fun k H1 => if k = true then ta σ H1 Q else tb σ H1 Q) := by
  refine ⟨fun pins s σ H Q I h => ?_⟩
  show wpAny (model X.prog X.w) X.A (do if ← isTrue c X.env (eval c X.env) then isTrue a X.env (eval a X.env) else isTrue b X.env (eval b X.env)) _ _ s
  refine wpAny_bind (thn (hc.run pins s σ H _ I h) fun k s1 ⟨H1, I1, q⟩ => ?_)
  cases k with
  | true => exact ha.run pins s1 σ H1 Q I1 q
  | false => exact hb.run pins s1 σ H1 Q I1 q
theorem e_ite {c : Expr} (hc : PB X c w) (ha : PB X l w1) (hb : PB X r w2) : PB X (.IfExp c l r pos) (fun ρ Q => w ρ fun x ρ1 => ∃ k, x = .d (.bool k) ∧ (k = true → w1 ρ1 Q) ∧ (k = false → w2 ρ1 Q)) := by
  refine ⟨PE.imp (pe_ifExp hc.pt ha.pe hb.pe) fun σ H R ⟨F, G, ρ, L, Q, s, hw, k⟩ => ?_, PT.imp (pt_ifExp hc.pt ha.pt hb.pt) fun σ H R ⟨F, G, ρ, L, Q, s, hw, k⟩ => ?_⟩
  · refine ⟨F, G, ρ, L, _, s, hw, fun x v ρ1 G1 H1 L1 M a q ⟨b, e, h1, h2⟩ => ?_⟩
    subst e
    exact ⟨b, bl_of q, if_bool (fun e => ⟨F, G1, ρ1, L1, Q, a.st, h1 e, Kont.step k a⟩) fun e => ⟨F, G1, ρ1, L1, Q, a.st, h2 e, Kont.step k a⟩⟩
  · refine ⟨F, G, ρ, L, _, s, hw, fun x v ρ1 G1 H1 L1 M a q ⟨b, e, h1, h2⟩ => ?_⟩
    subst e
    exact ⟨b, bl_of q, if_bool (fun e => ⟨F, G1, ρ1, L1, Q, a.st, h1 e, Kont.step k a⟩) fun e => ⟨F, G1, ρ1, L1, Q, a.st, h2 e, Kont.step k a⟩⟩
/-- a op b op2 c -/
theorem e_chain (g : Gd Γ N sc X) (o o' : CO) {c : Expr} (ha : PE X l (lift X.K w1)) (hb : PE X r (lift X.K w2)) (hc : PE X c (lift X.K w3)) (pl : plainE c = true) :
    PB X (.Compare l [copOf o, copOf o'] [r, c] pos) (fun ρ Q => w1 ρ fun x ρ1 => w2 ρ1 fun y ρ2 => cmpO o x y fun k => (k = true → w3 ρ2 fun z ρ3 => cmpO o' y z fun l => Q (.d (.bool l)) ρ3) ∧ (k = false → Q (.d (.bool false)) ρ2)) := by
  have main : ∀ σ H R, lift X.K (fun ρ Q => w1 ρ fun x ρ1 => w2 ρ1 fun y ρ2 => cmpO o x y fun k => (k = true → w3 ρ2 fun z ρ3 => cmpO o' y z fun l => Q (.d (.bool l)) ρ3) ∧ (k = false → Q (.d (.bool false)) ρ2)) σ H R →
      tChain (rCmp o) (rCmp o') (lift X.K w1) (lift X.K w2) (lift X.K w3) σ H R := by
    rintro σ H R ⟨F, G, ρ, L, Q, s, hw, k⟩
    refine ⟨F, G, ρ, L, _, s, hw, fun x v ρ1 G1 H1 L1 M a q hb => ⟨Tr.hold F H1 M, G1, ρ1, L1, _, a.st.hold q, hb, fun y u ρ2 G2 H2 L2 M2 b q2 ⟨c, d, hc, hd, hcmp⟩ => ?_⟩⟩
    obtain ⟨b1, q1⟩ := Aft.held q b
    obtain ⟨q2, _⟩ := held_apart q q2
    refine ⟨c, d, q1.r.now b1.st.gh hc, q2.r.now b1.st.gh hd, cmpD_mono hcmp fun z hz => ⟨z, rfl, if_bool (fun e => ?_) fun e => Kont.data (Kont.step k (a.trans b1)) b1.st (.bl _) (hz.2 e)⟩⟩
    refine ⟨Tr.hold F H2 M2, G2, ρ2, L2, _, b1.st.hold q2, hz.1 e, fun z' w' ρ3 G3 H3 L3 M3 b' q3 ⟨c', d', hc', hd', hcmp'⟩ => ?_⟩
    obtain ⟨b2, q2'⟩ := Aft.held q2 b'
    exact ⟨c', d', q2'.r.now b2.st.gh hc', q3.r.now b2.st.gh hd', cmpD_mono hcmp' fun z hz => Kont.data (Kont.step k (a.trans (b1.trans b2))) b2.st (.bl z) hz⟩
  have lm : lastMarks [copOf o, copOf o'] [r, c] = false := by
    show behindInMarks (copOf o') c = false
    exact behind_plain pl
  exact ⟨PE.imp (pe_chain (op_cmp g.un o) (op_cmp g.un o') ha hb hc lm) main, PT.imp (pt_chain (op_cmp g.un o) (op_cmp g.un o') ha hb hc lm) fun σ H R q => main σ H _ q⟩
end
end Tr
set_option Elab.async false
set_option linter.all false
set_option maxRecDepth 100000
set_option maxHeartbeats 1000000
namespace Tr
open PySem PySem.Spec PyProof.Rows L2
structure ValL (K : PySem.W.Frag) (F G H : Hp) (L : List Addr) (xs : List Tv) (vs : List V) (M : List Addr) : Prop where
  r : ORs K G H xs vs M
  nd : M.Nodup
  fr : ∀ a ∈ M, F a = none
  ap : ∀ a ∈ M, a ∉ L
def liftL (K : PySem.W.Frag) (n : Nat) (w : WL) : TA := fun σ H R => ∃ F G ρ L Q, Sta K F G H ρ σ L ∧ w ρ Q ∧
  ∀ xs vs ρ' G' H' L' M, Aft K F G G' H' ρ' σ L' → ValL K F G' H' L' xs vs M → xs.length = n → Q xs ρ' → R vs H'
section
variable {K : PySem.W.Frag} {F G H : Hp} {σ : L2.St} {ρ : Env'} {L M : List Addr} {Q : Tv → Env' → Prop} {R : V → Hp → Prop}
theorem ValL.val {xs : List Tv} {v : V} {vs : List V} {x : Tv} (q : ValL K F G H L [x] [v] M) : Val K F G H L x v M := by
  obtain ⟨r, nd, fr, ap⟩ := q
  cases r with
  | cons a t =>
    cases t
    rw [List.append_nil] at *
    exact ⟨a, nd, fr, ap⟩
theorem Sta.frozenL {xs : List Tv} {vs : List V} {ds : List PyData} (s : Sta K F G H ρ σ L) (q : ValL K F G H L xs vs M) (e : frzs xs = some ds) : Aft K F G (freeze G H M) H ρ σ L ∧ DqAll (freeze G H M) vs ds := by
  have hM : ∀ a ∈ M, G a = none := fun a ha => (q.r.there a ha).2
  refine ⟨⟨⟨s.sr.step (freeze_grow hM) (fun _ _ => rfl) fun a ha => ?_, s.nd, s.fr, s.fh, freeze_same s.gh, s.tb, s.nt, freeze_nt s.ng fun a ha => q.r.list a ha⟩, freeze_grow hM, fun a h1 h2 => ?_⟩, q.r.frozen hM e fun _ h => h⟩
  · rw [freeze_out fun h => q.ap a h ha]
    exact (s.sr.there a ha).2
  · by_cases h : a ∈ M
    · exact absurd (q.fr a h) h1
    · rw [freeze_out h]
      exact h2
theorem small_n {n : Nat} (h : n ≤ 1000) : n ≤ sizeLine := Nat.le_of_lt (small1000 h)
end
section
variable {Γ : Gam} {N : List Str} {sc : Scope} {X : Cx} {l r m : Expr} {rest es : List Expr} {pos : Pos} {w w1 w2 w3 : WE} {wl : WL} {n : Nat}
theorem a_nil : PA X [] (liftL X.K 0 fun ρ Q => Q [] ρ) := PA.imp pa_nil fun σ H R ⟨F, G, ρ, L, Q, s, hw, k⟩ => k [] [] ρ G H L [] (Aft.refl s) ⟨.nil, List.nodup_nil, fun _ z => absurd z (by simp), fun _ z => absurd z (by simp)⟩ rfl hw
theorem a_cons (ha : PE X l (lift X.K w)) (hr : PA X rest (liftL X.K n wl)) (pl : plainE l = true) : PA X (l :: rest) (liftL X.K (n + 1) fun ρ Q => w ρ fun x ρ1 => wl ρ1 fun xs ρ2 => Q (x :: xs) ρ2) := by
  refine PA.imp (pa_cons ha hr (starEach_plain pl)) fun σ H R ⟨F, G, ρ, L, Q, s, hw, k⟩ => ?_
  refine ⟨F, G, ρ, L, _, s, hw, fun x v ρ1 G1 H1 L1 M a q hb => ⟨Tr.hold F H1 M, G1, ρ1, L1, _, a.st.hold q, hb, fun xs vs ρ2 G2 H2 L2 M2 b q2 hn hq => ?_⟩⟩
  obtain ⟨b1, q1⟩ := Aft.held q b
  refine k (x :: xs) (v :: vs) ρ2 G2 H2 L2 (M ++ M2) (a.trans b1) ⟨.cons q1.r q2.r, ?_, fun c hc => ?_, fun c hc => ?_⟩ (by simp [hn]) hq
  · rw [List.nodup_append]
    refine ⟨q1.nd, q2.nd, fun c hc d hd e => ?_⟩
    subst e
    have := q2.fr c hd
    obtain ⟨⟨o, ho⟩, _⟩ := q.r.there c hc
    rw [hold_in hc, ho] at this
    cases this
  · rcases List.mem_append.mp hc with h | h
    · exact q1.fr c h
    · exact (hold_le q.fr).free (q2.fr c h)
  · rcases List.mem_append.mp hc with h | h
    · exact q1.ap c h
    · exact q2.ap c h
theorem e_tup {k : Nat} (h : PA X es (liftL X.K n wl)) (hn : n ≤ 1000) : PB X (.Tuple es k pos) (fun ρ Q => wl ρ fun xs ρ1 => ∃ ds, frzs xs = some ds ∧ Q (.d (.tuple ds)) ρ1) := by
  refine .val (PE.imp (pf_tup h) fun σ H R ⟨F, G, ρ, L, Q, s, hw, k⟩ => ⟨F, G, ρ, L, _, s, hw, fun xs vs ρ' G' H' L' M a q hl ⟨ds, e, hq⟩ => ?_⟩)
  obtain ⟨b, h1⟩ := a.st.frozenL q e
  exact ⟨by rw [← q.r.length, hl]; exact small_n hn, Kont.tup (Kont.step k (a.trans b)) b.st h1 hq⟩
theorem e_lst (h : PA X es (liftL X.K n wl)) (hn : n ≤ 1000) : PB X (.List es pos) (fun ρ Q => wl ρ fun xs ρ1 => Q (.own xs) ρ1) := by
  refine .val (PE.imp (pe_lst h) fun σ H R ⟨F, G, ρ, L, Q, s, hw, k⟩ => ⟨F, G, ρ, L, _, s, hw, fun xs vs ρ' G' H' L' M a q hl hq => ?_⟩)
  exact ⟨by rw [← q.r.length, hl]; exact small_n hn, fun p hp => Kont.lst (Kont.step k a) a.st hp q.r q.nd q.fr q.ap hq⟩
theorem e_neg (ha : PE X l (lift X.K w)) : PB X (.UnaryOp .USub l pos) (fun ρ Q => w ρ fun x ρ1 => ∃ i, x = .d (.int i) ∧ Q (.d (.int (-i))) ρ1) := by
  refine .val (PE.imp (pe_un un_neg ha) fun σ H R h => one_of (r := rU fun i => V.int (-i)) h fun v H1 ⟨F, G, ρ, L, x, M, Q, s, q, ⟨i, e, hq⟩, k⟩ => ?_)
  subst e
  exact ⟨i, q.r.dq.1.int_of, Kont.data k s (.int _) hq⟩
theorem e_idx (ha : PE X l (lift X.K w1)) (hb : PE X r (lift X.K w2)) (pl : plainE r = true) :
    PB X (.Subscript l r pos) (fun ρ Q => w1 ρ fun x ρ1 => w2 ρ1 fun y ρ2 => ∃ k z, y = .d (.int k) ∧ x.item k = some (.d z) ∧ Q (.d z) ρ2) := by
  refine .val (PE.imp (pe_ix (ix_list.or ix_tup) ha hb (ix_plain pl)) fun σ H R h => two_of h fun v u H2 ⟨F, G, ρ, L, x, y, M, N', Q, s, q, q2, ap, ⟨i, z, e, hi, hq⟩, k⟩ => ?_)
  subst e
  obtain ⟨p, vs, w, M2, rfl, hv, hat, r3, _⟩ := item_at s.gh q.r hi
  have fin := Kont.data k s r3.dq.1 hq
  rcases hv with hv | hv
  · exact .inl ⟨p, vs, i, w, rfl, q2.r.dq.1.int_of, hv, hat, fin⟩
  · exact .inr ⟨p, vs, i, w, rfl, q2.r.dq.1.int_of, hv, hat, fin⟩
def liftO (K : PySem.W.Frag) (w : WO) : TO := fun σ H R => ∃ F G ρ L Q, Sta K F G H ρ σ L ∧ w ρ Q ∧ ∀ o ρ' G' H' L', Aft K F G G' H' ρ' σ L' → Q o ρ' → R o H'
theorem o_none : PO X none (liftO X.K fun ρ Q => Q none ρ) := by
  refine ⟨fun pins s σ H R I ⟨F, G, ρ, L, Q, st, hw, k⟩ => po_none.run pins s σ H R I (k none ρ G H L (Aft.refl st) hw)⟩
theorem o_some (h : PE X l (lift X.K w)) : PO X (some l) (liftO X.K fun ρ Q => w ρ fun x ρ1 => ∃ k, x = .d (.int k) ∧ Q (some k) ρ1) := by
  refine ⟨fun pins s σ H R I ⟨F, G, ρ, L, Q, st, hw, k⟩ => (po_some h).run pins s σ H R I ?_⟩
  refine ⟨F, G, ρ, L, _, st, hw, fun x v ρ1 G1 H1 L1 M a q ⟨i, e, hq⟩ => ?_⟩
  subst e
  exact ⟨i, q.r.dq.1.int_of, k (some i) ρ1 G1 H1 L1 a hq⟩
theorem e_slice {lo hi : Option Expr} {p2 : Pos} {wlo whi : WO} (ha : PE X l (lift X.K w)) (hl : PO X lo (liftO X.K wlo)) (hh : PO X hi (liftO X.K whi)) :
    PB X (.Subscript l (.Slice lo hi none p2) pos) (fun ρ Q => w ρ fun x ρ1 => wlo ρ1 fun a ρ2 => whi ρ2 fun b ρ3 => sliceO x a b fun z => Q z ρ3) := by
  refine .val (PE.imp (pe_slice (SlR.or sl_list sf_tup) ha hl hh) fun σ H R ⟨F, G, ρ, L, Q, s, hw, k⟩ => ?_)
  refine ⟨F, G, ρ, L, _, s, hw, fun x v ρ1 G1 H1 L1 M a q hb => ⟨Tr.hold F H1 M, G1, ρ1, L1, _, a.st.hold q, hb, fun lo' ρ2 G2 H2 L2 b hb2 => ⟨Tr.hold F H1 M, G2, ρ2, L2, _, b.st, hb2, fun hi' ρ3 G3 H3 L3 c hs => ?_⟩⟩⟩
  obtain ⟨bc, q1⟩ := Aft.held q (b.trans c)
  have k := Kont.step k (a.trans bc)
  have s3 := bc.st
  unfold sliceO at hs
  split at hs
  · rename_i ns
    cases q1.r with
    | scr r =>
      refine .inl ⟨_, _, rfl, s3.gh.seq r, fun p hp => ?_⟩
      have : DqAll G3 (cutV (ns.map V.int) lo' hi') ((cutD ns lo' hi').map PyData.int) := by
        have e1 : cutV (ns.map V.int) lo' hi' = (cutD ns lo' hi').map V.int := by
          unfold cutV cutD
          rw [List.length_map, ← List.map_drop, ← List.map_take]
        rw [e1]
        clear hs
        induction cutD ns lo' hi' with
        | nil => exact .nil
        | cons a t ih => exact .cons (.int a) ih
      have hs' : Q (.own (((cutD ns lo' hi').map PyData.int).map Tv.d)) ρ3 := by
        rw [List.map_map]
        exact hs
      exact k.lstD s3 hp this hs'
  · rename_i xs
    obtain ⟨p, vs, rfl, g1, d1⟩ := q1.r.dq.1.tup_of
    refine .inr ⟨p, vs, rfl, (g1.grow s3.gh).sq, fun e => ?_, fun e => k.tup s3 (d1.cut _ _) hs⟩
    have e2 : cutD xs lo' hi' = xs := by
      unfold cutD
      rw [← d1.length, e.1, e.2, List.drop_zero, Nat.sub_zero, d1.length, List.take_length]
    rw [e2] at hs
    exact k.data s3 (.tup g1 d1) hs
  · obtain ⟨xs, e, hq⟩ := hs
    obtain ⟨b', h1⟩ := s3.frozen q1 e
    obtain ⟨p, vs, rfl, g1, d1⟩ := h1.lst_of
    exact .inl ⟨p, vs, rfl, SqL.of (b'.st.gh _ _ g1), fun p' hp => (k.step b').lstD b'.st hp (d1.cut _ _) hq⟩
theorem e_rev {k : Nat} {p1 p2 p3 : Pos} (ha : PE X l (lift X.K w)) : PB X (.Subscript l (.Slice none none (some (.UnaryOp .USub (.Constant (.int 1) k p1) p2)) p3) pos) (fun ρ Q => w ρ fun x ρ1 => revO x fun z => Q z ρ1) := by
  refine .val (PE.imp (pe_revA ha) fun σ H R ⟨F, G, ρ, L, Q, s, hw, k⟩ => ⟨F, G, ρ, L, _, s, hw, fun x v ρ1 G1 H1 L1 M a q hq => ?_⟩)
  unfold revO at hq
  split at hq
  · obtain ⟨p, vs, rfl, g1, d1⟩ := q.r.dq.1.tup_of
    exact ⟨p, vs, rfl, .inr ⟨(g1.grow a.st.gh).sq, (Kont.step k a).tup a.st d1.reverse hq⟩⟩
  · obtain ⟨xs, e, hq⟩ := hq
    obtain ⟨b, h1⟩ := a.st.frozen q e
    obtain ⟨p, vs, rfl, g1, d1⟩ := h1.lst_of
    exact ⟨p, vs, rfl, .inl ⟨SqL.of (b.st.gh _ _ g1), fun p' hp => (Kont.step k (a.trans b)).lstD b.st hp d1.reverse hq⟩⟩
theorem ints_of {G : Hp} : ∀ {vs : List V} {xs : List PyData} {ns : List Int}, DqAll G vs xs → intsOf xs = some ns → vs = ns.map V.int
  | _, [], _, h, e => by cases h; cases e; rfl
  | _, .int i :: xs, ns, h, e => by
    cases h with
    | cons a t =>
      have e : (intsOf xs).map (i :: ·) = some ns := e
      cases e1 : intsOf xs with
      | none => rw [e1] at e; cases e
      | some ms =>
        rw [e1] at e; cases e
        rw [a.int_of, ints_of t e1]
        rfl
  | _, .none :: _, _, _, e => by cases e
  | _, .bool _ :: _, _, _, e => by cases e
  | _, .str _ :: _, _, _, e => by cases e
  | _, .list _ :: _, _, _, e => by cases e
  | _, .tuple _ :: _, _, _, e => by cases e
  | _, .dict _ :: _, _, _, e => by cases e
theorem bools_of {G : Hp} : ∀ {vs : List V} {xs : List PyData} {ns : List Bool}, DqAll G vs xs → boolsOf xs = some ns → vs = ns.map V.bl
  | _, [], _, h, e => by cases h; cases e; rfl
  | _, .bool i :: xs, ns, h, e => by
    cases h with
    | cons a t =>
      have e : (boolsOf xs).map (i :: ·) = some ns := e
      cases e1 : boolsOf xs with
      | none => rw [e1] at e; cases e
      | some ms =>
        rw [e1] at e; cases e
        rw [a.bl_of, bools_of t e1]
        rfl
  | _, .none :: _, _, _, e => by cases e
  | _, .int _ :: _, _, _, e => by cases e
  | _, .str _ :: _, _, _, e => by cases e
  | _, .list _ :: _, _, _, e => by cases e
  | _, .tuple _ :: _, _, _, e => by cases e
  | _, .dict _ :: _, _, _, e => by cases e
theorem foldl_max_spec : ∀ (ns : List Int) (n : Int), ns.foldl max n ∈ n :: ns ∧ ∀ y ∈ n :: ns, y ≤ ns.foldl max n
  | [], n => ⟨by simp, fun y hy => by simp at hy; simp [hy]⟩
  | a :: ns, n => by
    obtain ⟨h1, h2⟩ := foldl_max_spec ns (max n a)
    refine ⟨?_, fun y hy => ?_⟩
    · show ns.foldl max (max n a) ∈ _
      rcases List.mem_cons.mp h1 with e | e
      · rw [e]
        rcases Int.le_total n a with q | q
        · rw [Int.max_eq_right q]; simp
        · rw [Int.max_eq_left q]; simp
      · simp [e]
    · show y ≤ ns.foldl max (max n a)
      have h0 := h2 (max n a) (by simp)
      rcases List.mem_cons.mp hy with e | e
      · subst e; omega
      · rcases List.mem_cons.mp e with e | e
        · subst e; omega
        · exact h2 y (by simp [e])
theorem foldl_min_spec : ∀ (ns : List Int) (n : Int), ns.foldl min n ∈ n :: ns ∧ ∀ y ∈ n :: ns, ns.foldl min n ≤ y
  | [], n => ⟨by simp, fun y hy => by simp at hy; simp [hy]⟩
  | a :: ns, n => by
    obtain ⟨h1, h2⟩ := foldl_min_spec ns (min n a)
    refine ⟨?_, fun y hy => ?_⟩
    · show ns.foldl min (min n a) ∈ _
      rcases List.mem_cons.mp h1 with e | e
      · rw [e]
        rcases Int.le_total n a with q | q
        · rw [Int.min_eq_left q]; simp
        · rw [Int.min_eq_right q]; simp
      · simp [e]
    · show ns.foldl min (min n a) ≤ y
      have h0 := h2 (min n a) (by simp)
      rcases List.mem_cons.mp hy with e | e
      · subst e; omega
      · rcases List.mem_cons.mp e with e | e
        · subst e; omega
        · exact h2 y (by simp [e])
def Bn.val : Bn → Value
  | .bool => .type "bool" | .len => .builtin "len" | .abs => .builtin "abs" | .int => .type "int" | .str => .type "str" | .repr => .builtin "repr" | .tuple => .type "tuple" | .list => .type "list" | .sorted => .builtin "sorted" | .sum => .builtin "sum"
  | .any => .builtin "any" | .all => .builtin "all" | .max => .builtin "max" | .min => .builtin "min" | .max2 => .builtin "max" | .min2 => .builtin "min" | .suml => .builtin "sum"
def Bn.nm : Bn → Str
  | .bool => "bool" | .len => "len" | .abs => "abs" | .int => "int" | .str => "str" | .repr => "repr" | .tuple => "tuple" | .list => "list" | .sorted => "sorted" | .sum => "sum"
  | .any => "any" | .all => "all" | .max => "max" | .min => "min" | .max2 => "max" | .min2 => "min" | .suml => "sum"
theorem plain_noDict : ∀ d : PyData, d.plain = true → d.hasDict = false := by
  have : ∀ n : Nat, True := fun _ => trivial
  intro d
  exact go d
where
  go : ∀ d : PyData, d.plain = true → d.hasDict = false
    | .none, _ => rfl
    | .bool _, _ => rfl
    | .int _, _ => rfl
    | .str _, _ => rfl
    | .list xs, h => by simp only [PyData.hasDict]; exact goAll xs (by simpa [PyData.plain] using h)
    | .tuple xs, h => by simp only [PyData.hasDict]; exact goAll xs (by simpa [PyData.plain] using h)
    | .dict _, h => by simp [PyData.plain] at h
  goAll : ∀ xs : List PyData, PyData.plainAll xs = true → PyData.hasDictAll xs = false
    | [], _ => rfl
    | x :: xs, h => by
      simp only [PyData.plainAll, Bool.and_eq_true] at h
      simp only [PyData.hasDictAll, Bool.or_eq_false_iff]
      exact ⟨go x h.1, goAll xs h.2⟩
theorem ints_read {H : Hp} {h : Heap} : ∀ {vs : List V} {us : List Value} {ds : List PyData}, DqAll H vs ds → Vals vs us → ds.all dInt = true → ReadsAll h us ds []
  | _, _, _, .nil, .nil, _ => .nil
  | _, _, _, .cons h1 h2, .cons r1 r2, e => by
    rw [List.all_cons, Bool.and_eq_true] at e
    cases h1 <;> first | exact Bool.noConfusion e.1 | skip
    obtain ⟨t, rfl⟩ := r1
    exact ReadsAll.cons (.int _ t) (ints_read h2 r2 e.2)
theorem depth_ints : ∀ kvs : List (Key × PyData), kvs.all (fun p => dInt p.2) = true → (PyData.dict (kvs.map kvD)).depth ≤ 2
  | kvs, h => by
    have : PyData.depthKv (kvs.map kvD) ≤ 1 := by
      induction kvs with
      | nil => simp [PyData.depthKv]
      | cons p r ih =>
        rw [List.all_cons, Bool.and_eq_true] at h
        have := ih h.2
        obtain ⟨k, d⟩ := p
        cases d <;> first | exact Bool.noConfusion h.1 | skip
        cases k <;> simp only [List.map_cons, kvD, kD, PyData.depthKv, PyData.depth] <;> omega
    simp only [PyData.depth]
    omega
theorem cr_repr (g : X.A.guards = some []) (hu : X.A.units + 200 < cLine) : CallR X (.builtin "repr") (fun vs H R => ∃ v d xs, vs = [v] ∧ Dq H v d ∧ PyData.repD d = some xs ∧ ShowOk d ∧ R (.str d.shown) H) := by
  intro pins s σ H vs us Q I r h
  obtain ⟨v, d, xs, rfl, hd, hi, ok, q⟩ := h
  obtain ⟨u, rfl, rx⟩ := vals1 r
  have hz := ok.sz
  have nd : (∀ kvs, d ≠ .dict kvs) → (d.plain = true ∧ d.depth ≤ 31) ∨ tupD 30 d = true := fun h => by
    rcases ok.nd with ⟨kvs, e⟩ | e | e
    · exact absurd e (h kvs)
    · have := shal_plain _ _ e
      exact .inl ⟨this.1, by omega⟩
    · exact .inr e
  cases hd with
  | lst e1 e2 =>
    have hp : _ ∧ _ := (nd fun _ z => by cases z).resolve_right (by simp [tupD])
    obtain ⟨as, rd⟩ := (Dq.lst e1 e2).reads I rx
    cases rx
    exact PySem.repr_of_reads' rd ok.sh (PyData.noDict_hsm (plain_noDict _ hp.1)) g (by omega) (fun _ _ e => e) (fun h' u tk hk => ⟨.str _, H, I.kept hk, ⟨u, rfl⟩, q⟩) ok.sz
  | tup e1 e2 =>
    rcases nd (fun _ z => by cases z) with hp | hp
    · obtain ⟨as, rd⟩ := (Dq.tup e1 e2).reads I rx
      cases rx
      exact PySem.repr_of_reads' rd ok.sh (PyData.noDict_hsm (plain_noDict _ hp.1)) g (by omega) (fun _ _ e => e) (fun h' u tk hk => ⟨.str _, H, I.kept hk, ⟨u, rfl⟩, q⟩) ok.sz
    · obtain ⟨as, rd, hn, hdp⟩ := (Dq.tup e1 e2).readsN I 30 hp rx
      cases rx
      exact PySem.repr_of_reads' rd ok.sh (fun _ => hn) g (by omega) (fun _ _ e => e) (fun h' u tk hk => ⟨.str _, H, I.kept hk, ⟨u, rfl⟩, q⟩) ok.sz
  | non =>
    cases rx
    exact P.repr_of_none ⟨.str _, H, I.kept fun _ _ e => e, ⟨_, rfl⟩, q⟩
  | bl c =>
    cases rx
    exact P.repr_of_bool ⟨.str _, H, I.kept fun _ _ e => e, ⟨_, rfl⟩, q⟩
  | int i =>
    obtain ⟨tk, rfl⟩ := rx
    have hl : i.natAbs.log2 < 1920 := by
      by_cases hl : i.natAbs.log2 < 1920
      · exact hl
      · rw [PyData.repD, if_neg hl] at hi
        cases hi
    exact P.repr_of_int hl ⟨.str _, H, I.kept fun _ _ e => e, ⟨_, rfl⟩, q⟩
  | str x =>
    obtain ⟨tk, rfl⟩ := rx
    exact P.repr_of_str ⟨.str _, H, I.kept fun _ _ e => e, ⟨_, rfl⟩, q⟩ hz
  | dct hs e ha =>
    rename_i a vs kvs
    cases rx
    have hall : kvs.all (fun p => dInt p.2) = true := by
      by_cases h : (kvs.map kvD).all (fun p => dInt p.2) = true
      · rw [List.all_map] at h
        exact h
      · rw [PyData.repD, if_neg h] at hi
        cases hi
    obtain ⟨_, hsy, us, rel, o, es, ep, ho, hx, hdd, _, hpp, _⟩ := dk_of I.hok hs
    have hr := ints_read (h := s.heap) ha (kv_vals rel) (by rw [List.all_map]; exact hall)
    rw [← vals_pairs hpp, ← kvD_snd] at hr
    have rd := Reads.dict ho hx.1 hdd (keys_read hpp (rel.keys.symm.trans e)) hr
    have hn : a ≠ sysModules := fun z => by
      rw [z] at hsy
      simp at hsy
    refine PySem.repr_of_reads' rd ok.sh (fun _ z => by simp at z; exact hn z.symm) g (by have := depth_ints kvs hall; omega) (fun _ _ e => e) (fun h' u tk hk => ⟨.str _, H, I.kept hk, ⟨u, rfl⟩, q⟩) ok.sz
end
end Tr
set_option Elab.async false
set_option linter.all false
set_option maxRecDepth 100000
set_option maxHeartbeats 1000000
namespace Tr
open PySem PySem.Spec PyProof.Rows L2
/-- a new set -/
abbrev sobj (w : World) : Obj := { cls := .type "set", dict := none, data := .set #[] 0 (.fresh 0 0 (!w.params.followText "set-order")) }
section
variable {P : Program} {w : World} {A : Around} {E : Value → Shared → Prop} {s : Shared}
set_option maxRecDepth 100000 in
set_option maxHeartbeats 3200000 in
theorem set_of_listI {l : Addr} {itms : Array Value} (ns : List Int) {Q : Value → Shared → Prop} (hh : A.handled = none) (hlist : s.heap.IsList l itms) (hints : IntsAre itms.toList ns) (hroom : ns.length + 1 < scanBound)
    (h : ∀ (h' : Heap) (tk c : Nat), SetR w h' s.heap.objs.size (fun j => decide (j ∈ ns)) c → c ≤ ns.length → (∀ b o, s.heap.get? b = some o → h'.get? b = some o) → Q (.ref s.heap.objs.size) { s with heap := h', toks := tk }) :
    wpAny (model P w) A (call (.type "set") [.ref l]) Q E s := by
  have hcount : itms.size = ns.length := by
    have q := IntsAre.length hints
    rw [Array.length_toList] at q
    exact q
  obtain ⟨c, tl, hmro⟩ := F.called_set.mro
  have qmade := F.called_set.made
  have qsub := F.called_set.sub
  refine wpAny_call (codeAny_of_tree ?_)
  show wpAny _ _ (callAny (.type "set") _) _ _ _
  refine wpAny_pure ⟨Code.quiet_builtin _ (by decide +kernel), codeAny_builtin F.entry_type_call ?_⟩
  rw [Around.under_plain (weight_type_call_type "set" [.ref l] []) rfl]
  have h1 := F.called_set.notType
  have h2 := F.called_set.canCreate
  have qcall := F.typeCall_set_1 (.ref l)
  repeat (any_goals (first | assumption | wp_step))
  refine codeAny_mono (code_set_led1 (.ref l) (E := E) (Q₁ := fun obj s₁ => obj = .ref s.heap.objs.size ∧ s₁ = { s with heap := s.heap.push (sobj w) }) ⟨rfl, rfl⟩) fun r s₁ res1 => ?_
  cases r with
  | error e => exact res1
  | ok fl =>
    cases fl with
    | ret obj =>
      obtain ⟨rfl, rfl⟩ := res1
      have got1 : (s.heap.push (sobj w)).get? s.heap.objs.size = some (sobj w) := Heap.get?_push_size _ rfl
      have typ1 : Shared.TypeIs { s with heap := s.heap.push (sobj w) } (.ref s.heap.objs.size) "set" := ⟨_, got1, rfl⟩
      have qlook := F.called_set.init.lookup
      have qbind := F.called_set.init.bind (.ref s.heap.objs.size)
      repeat (any_goals (first | assumption | wp_step))
      refine codeAny_mono (codeAny_call_builtin (R := wants (fun r s₂ => r = .none ∧ ∃ h' tk c, s₂ = { s with heap := h', toks := tk } ∧ SetR w h' s.heap.objs.size (fun j => decide (j ∈ ns)) c ∧ c ≤ ns.length ∧
          (∀ b o, s.heap.get? b = some o → h'.get? b = some o)) E) F.called_set.init.plain F.entry_set_init (check_set_init_1 typ1 ?_)) fun r₂ s₂ res2 => ?_
      · obtain ⟨ol, gotl, hcl, nl, hdl⟩ := hlist
        obtain ⟨ocls, odict, odata, oslots⟩ := ol
        simp only at hcl hdl
        subst hcl; subst hdl
        have gotl2 : (s.heap.push (sobj w)).get? l = some { cls := .type "list", dict := odict, data := .seq itms nl, slots := oslots } := Heap.get?_push_of_some _ gotl
        have qs1 := F.sub_list_set
        have qs2 := F.sub_list_frozenset
        have qne : (Value.type "list" == Value.type "dict") = false := by decide
        have isl1 : (s.heap.push (sobj w)).IsList l itms := ⟨_, gotl2, rfl, nl, rfl⟩
        unfold Builtin.«set.__init__» noKeywords Builtin.Frozenset.updateFrom
        generalize hPI : pyIter = PI
        wp_walk
        subst hPI
        refine wpAny_pyIter_list isl1 ?_
        refine wpAny_bind (wpAny_runValue ?_)
        have ltl : l < s.heap.objs.size := Heap.lt_size gotl
        have calm3 : A.in1.in1.in1.handled = none := by simp [hh]
        have size1 : (s.heap.push (sobj w)).objs.size = s.heap.objs.size + 1 := Heap.size_push ..
        have apart1 : l ≠ (s.heap.push (sobj w)).objs.size := by
          rw [Heap.size_push]; exact Nat.ne_of_lt (Nat.lt_succ_of_lt ltl)
        have apart2 : s.heap.objs.size ∉ [(s.heap.push (sobj w)).objs.size, l] := by
          rw [Heap.size_push]; simp only [List.mem_cons, List.mem_singleton, List.not_mem_nil, or_false, not_or]
          exact ⟨Nat.ne_of_lt (Nat.lt_succ_self _), Nat.ne_of_gt ltl⟩
        have each : ∀ (i : Nat) (v : Value), itms[i]? = some v → ∃ k t, ns[i]? = some k ∧ v = .int k t := fun i v hv => by
          have hi : i < ns.length := by rw [← hcount]; exact (Array.getElem?_eq_some_iff.mp hv).1
          obtain ⟨t, e⟩ := PyProof.Rows.IntsAre.int_at hints i v (by rw [Array.getElem?_toList]; exact hv)
          refine ⟨ns[i], t, List.getElem?_eq_getElem hi, ?_⟩
          rw [e, List.getD_eq_getElem?_getD, List.getElem?_eq_getElem hi] <;> rfl
        refine set_update_ints ((Walks.list calm3 _ l apart1 itms).toS) s.heap.objs.size
          apart2 ns hcount hroom each (itms.size - 0) 0 _ (by omega) (Nat.zero_le _)
          ⟨⟨_, Heap.get?_push_size _ rfl, rfl, rfl⟩, (isl1.push _)⟩ ?hS0 ?hR
        case hS0 =>
          have got0 : ((s.heap.push (sobj w)).push { cls := .type "list_iterator", data := .fields #[.ref l, .int 0 0] }).get? s.heap.objs.size
              = some (sobj w) := Heap.get?_push_of_some _ got1
          exact ⟨0, Nat.le_refl 0, setR_new_at got0⟩
        case hR =>
          intro s' cn mv le1 setA
          obtain ⟨h', g2, d', tk', os'⟩ := s'
          have e1 : g2 = s.gens := mv.gens
          have e2 : d' = s.drawn := mv.drawn
          have e3 : os' = s.os := mv.os
          subst e1; subst e2; subst e3
          show wpAny _ _ _ _ _ _
          refine wpAny_pure ?_
          show wpAny _ _ (ret Value.none) _ _ _
          rw [hcount] at le1
          refine wpAny_pure ⟨rfl, h', tk', cn, rfl, setA, le1, fun b o e => ?_⟩
          have lt0 : b < s.heap.objs.size := Heap.lt_size e
          have ne1 : b ≠ s.heap.objs.size := Nat.ne_of_lt lt0
          have ne2 : b ≠ (s.heap.push (sobj w)).objs.size := by
            rw [Heap.size_push]; exact Nat.ne_of_lt (Nat.lt_succ_of_lt lt0)
          exact mv.heap b o (by simp only [List.mem_cons, List.mem_singleton, List.not_mem_nil, or_false, not_or]; exact ⟨ne1, ne2⟩) (Heap.get?_push_of_some _ (Heap.get?_push_of_some _ e))
      · cases r₂ with
        | error e => exact res2
        | ok fl₂ =>
          cases fl₂ with
          | ret r =>
            obtain ⟨rfl, h', tk, cn, rfl, setA, le1, hk'⟩ := res2
            repeat (any_goals (first | assumption | wp_step))
            exact h _ _ _ setA le1 hk'
          | _ => exact res2.elim
    | _ => exact res1.elim
end
end Tr
set_option Elab.async false
set_option linter.all false
set_option maxRecDepth 100000
set_option maxHeartbeats 1000000
namespace Tr
open PySem PySem.Spec PyProof.Rows L2
section
variable {X : Cx}
/-- set(xs) of a list or a tuple of ints -/
theorem cr_setI (hc : X.calm = true) : CallR X (.type "set") (fun vs H R => ∃ (p : Addr) (ns : List Int), vs = [.ref p] ∧ (SqL X.K H p (ns.map V.int) ∨ SqT X.K H p (ns.map V.int)) ∧ ns.length ≤ 1000 ∧
    ∀ q c, H q = none → c ≤ ns.length → R (.ref q) (upd H q (SetO X.w q (fun j => decide (j ∈ ns)) c))) := by
  intro pins s σ H vs us Q I r h
  obtain ⟨p, ns, rfl, hq, hl, q⟩ := h
  rw [Vals.ref1 r]
  have hb : ns.length + 1 < scanBound := by unfold scanBound; omega
  have fin : ∀ (h' : Heap) (tk c : Nat), SetR X.w h' s.heap.objs.size (fun j => decide (j ∈ ns)) c → c ≤ ns.length → (∀ b o, s.heap.get? b = some o → h'.get? b = some o) → EP X pins σ Q (.ref s.heap.objs.size) { s with heap := h', toks := tk } := fun h' tk c R hc' hk =>
    ⟨.ref s.heap.objs.size, upd H s.heap.objs.size (SetO X.w s.heap.objs.size (fun j => decide (j ∈ ns)) c), I.laid (t' := tk) hk (Nat.le_refl _) (setO_new R), rfl, q _ c (I.hok.fresh (Nat.le_refl _)) hc'⟩
  rcases hq with hq | hq
  · obtain ⟨its, rv, pl, hz⟩ := I.list hq
    exact set_of_listI ns (I.ok.hd hc) pl.isList (by simpa using rv.ints) hb fin
  · obtain ⟨its, rv, pl, hz⟩ := I.tuple hq
    exact call_set_tupI ns (I.ok.hd hc) pl (by simpa using rv.ints) hb fin
theorem map_snd_zip' {α β : Type} : ∀ {as : List α} {bs : List β}, as.length = bs.length → (as.zip bs).map Prod.snd = bs
  | [], [], _ => rfl
  | a :: as, b :: bs, h => by simp [map_snd_zip' (show as.length = bs.length by simpa using h)]
theorem each_zip {G : Hp} : ∀ {vs : List V} {xs : List PyData} {its : List Value}, DqAll G vs xs → Vals vs its → PySem.W.EachIs (fun (u : Value) (b : V × PyData) => RelV b.1 u ∧ Dq G b.1 b.2) its (vs.zip xs)
  | _, _, _, .nil, .nil => .nil
  | _, _, _, .cons a t, .cons r q => .cons ⟨r, a⟩ (each_zip t q)
theorem zip_each {G : Hp} : ∀ {its : List Value} {bs : List (V × PyData)}, PySem.W.EachIs (fun (u : Value) (b : V × PyData) => RelV b.1 u ∧ Dq G b.1 b.2) its bs → DqAll G (bs.map Prod.fst) (bs.map Prod.snd) ∧ Vals (bs.map Prod.fst) its
  | _, _, .nil => ⟨.nil, .nil⟩
  | _, _, .cons h t => ⟨.cons h.2 (zip_each t).1, .cons h.1 (zip_each t).2⟩
section
open PySem.Calls
variable {prog : Program} {w : World} {A : Around} {E : Value → Shared → Prop} {s : Shared}
/-- a tuple's items, put into a new list -/
theorem gather_tup {l : Addr} {vs : List Value} {Q : List Value → Shared → Prop} (hl : s.heap.IsTuple l vs.toArray) (hz : vs.length ≤ sizeLine)
    (q : Q vs { s with heap := (s.heap.push (PyProof.Rows.seqObj "list" #[] 0)).update s.heap.objs.size (Obj.mapSeq (· ++ vs.toArray)) }) : wpAny (model prog w) A (collect (.ref l)) Q E s := by
  obtain ⟨o, g, cl, n, dt⟩ := hl
  have g2 : (s.heap.push (PyProof.Rows.seqObj "list" #[] 0)).get? l = some o := Heap.get?_push_of_some _ g
  have new := Heap.get?_push_size s.heap (o := PyProof.Rows.seqObj "list" #[] 0) rfl
  unfold collect
  apply wpAny_bind
  apply wpAny_runValue
  apply codeAny_builtin PyProof.Rows.entry_proto_collect'
  change wpAny _ _ (do again (.builtin "list.__iadd__" ⟨[← newList [], Value.ref l], []⟩)) _ _ s
  apply wpAny_bind
  refine wpAny_newList ?_
  refine wpAny_pure ⟨Code.quiet_builtin _ (by decide +kernel), ?_⟩
  apply codeAny_builtin PyProof.Rows.entry_list_iadd'
  change wpAny _ _ (Builtin.List.listExtendWith (Value.ref s.heap.objs.size) (Value.ref l) (Value.ref s.heap.objs.size)) _ _ { s with heap := s.heap.push (PyProof.Rows.seqObj "list" #[] 0) }
  unfold Builtin.List.listExtendWith
  apply wpAny_bind
  refine wpAny_typeOf (T := "tuple") ⟨o, g2, cl⟩ ?_
  have tt : (Value.type "tuple" == Value.type "tuple") = true := rfl
  rw [if_pos (by rw [tt]; simp)]
  apply wpAny_bind
  refine PyProof.Rows.listItems_at g2 dt ?_
  apply wpAny_bind
  refine PyProof.Rows.listItems_at (xs := #[]) (n := 0) new rfl ?_
  rw [if_neg (by simp)]
  apply wpAny_bind
  refine PyProof.Rows.listUpdate_at (xs := #[]) (n := 0) new rfl ?_ (Nat.zero_le _) (by simp only [Array.empty_append, List.size_toArray]; omega)
  apply wpAny_pure
  change wpAny (model prog w) A (do let o ← load s.heap.objs.size; (match o.data with | .seq xs _ => pure xs.toList | _ => unsupported "internal:collect")) Q E { s with heap := (s.heap.push (PyProof.Rows.seqObj "list" #[] 0)).update s.heap.objs.size (Obj.mapSeq (· ++ vs.toArray)) }
  apply wpAny_bind
  refine wpAny_load (PyProof.Rows.get?_update_seq new _) ?_
  change wpAny _ _ (pure ((#[] : Array Value) ++ vs.toArray).toList) Q E _
  have e : ((#[] : Array Value) ++ vs.toArray).toList = vs := by simp
  rw [e]
  exact wpAny_pure q
theorem sorted_tupv {κ : PyProof.Rows.KeyKind} {l : Addr} {vs : List Value} {Q : Value → Shared → Prop} (hl : s.heap.IsTuple l vs.toArray) (S : PySem.W.SortsAt prog w A.in1.in1 { s with heap := PySem.W.sortingHeap (PySem.W.copyHeap s.heap vs) (s.heap.objs.size + 1) vs } κ vs) (hz : vs.length ≤ sizeLine)
    (q : Q (.ref (s.heap.objs.size + 1)) { s with heap := PyProof.Rows.sortedAll s.heap vs (PySem.W.sortVals κ false vs vs).toArray }) : wpAny (model prog w) A (call (.builtin "sorted") [.ref l]) Q E s := by
  refine PySem.Calls.call_function_entry PyProof.Rows.kind_sorted PyProof.Rows.plain_sorted PyProof.Rows.entry_sorted (PyProof.Rows.args_sorted1 _) ?_
  unfold Builtin.«sorted»
  apply wpAny_bind (m := checkCount "sorted" 1 1 _)
  apply wpAny_pure
  apply wpAny_bind
  refine gather_tup hl hz ?_
  apply wpAny_bind
  refine wpAny_newList ?_ hz
  have sz : ((s.heap.push (PyProof.Rows.seqObj "list" #[] 0)).update s.heap.objs.size (Obj.mapSeq (· ++ vs.toArray))).objs.size = s.heap.objs.size + 1 := by
    rw [Heap.size_update, PyProof.Rows.size_push']
  change wpAny _ _ _ _ _ { s with heap := PySem.W.copyHeap s.heap vs }
  rw [sz]
  apply wpAny_bind
  refine wpAny_holding (wpAny_call_entry_kw PyProof.Rows.slot_list_sort ⟨_, PySem.W.copyHeap_at s.heap vs, rfl⟩ PyProof.Rows.entry_list_sort ?_ (PyProof.Rows.args_list_sort _))
  change wpAny (model prog w) A.in1.in1 (Builtin.«list.sort» ⟨[Value.ref (s.heap.objs.size + 1)], []⟩) _ _ _
  refine wpAny_mono (PySem.W.list_sort_vals (P := fun f s' => f = .done (.ret .none) ∧ Q (.ref (s.heap.objs.size + 1)) s') (s := { s with heap := PySem.W.copyHeap s.heap vs }) (PySem.W.copyHeap_at s.heap vs) S hz ⟨rfl, q⟩) (fun f s' hf => ?_) fun _ _ e => e
  obtain ⟨rfl, hq⟩ := hf
  exact ⟨_, rfl, wpAny_pure ⟨_, rfl, hq⟩⟩
end
section
variable {prog : Program} {w : World} {A : Around} {E : Value → Shared → Prop} {s : Shared} {β : Type} {R : Value → β → Prop} {enc : β → PyData} {vs : List Value} {bs : List β}
theorem sorted_tupd {l : Addr} {Q : Value → Shared → Prop} (hl : s.heap.IsTuple l vs.toArray) (e : PySem.W.EachIs R vs bs) (er : PySem.W.EachIs (fun v b => ∃ as, Reads s.heap v (enc b) as) vs bs) (al : PySem.W.AllAlike (bs.map enc)) (so : PySem.W.Sortable (bs.map enc)) (hz : bs.length ≤ sizeLine)
    (hu : ∀ b, b ∈ bs → A.units + 2 + (enc b).depth < cLine) (q : ∀ out, out.length = bs.length → PySem.W.EachIs R out (bs.mergeSort (PySem.W.dataLe false enc)) → Q (.ref (s.heap.objs.size + 1)) { s with heap := PyProof.Rows.sortedAll s.heap vs (List.toArray out) }) :
    wpAny (model prog w) A (call (.builtin "sorted") [.ref l]) Q E s := by
  have far : PySem.W.EachIs (fun v b => ∃ as, Reads (PySem.W.sortingHeap (PySem.W.copyHeap s.heap vs) (s.heap.objs.size + 1) vs) v (enc b) as) vs bs := er.mono fun _ _ ⟨as, r⟩ => ⟨as, PyProof.Rows.Reads.keeps (fun _ _ => PySem.W.sorting_copy_old) r⟩
  have S := PySem.W.SortsAt.data (prog := prog) (w := w) (A := A.in1.in1) (s := { s with heap := PySem.W.sortingHeap (PySem.W.copyHeap s.heap vs) (s.heap.objs.size + 1) vs }) (PySem.W.each_map (R := fun v d => ∃ as, Reads (PySem.W.sortingHeap (PySem.W.copyHeap s.heap vs) (s.heap.objs.size + 1) vs) v d as) enc far) al so (PySem.W.bound_map hu)
  exact sorted_tupv hl S (by rw [e.length]; exact hz) (q _ (by rw [PySem.W.sortVals_length false rfl]; exact e.length) (PySem.W.sortVals_data false e far al))
end
theorem cr_sortedD (hu : X.A.units + 200 < cLine) : CallR X (.builtin "sorted") (fun vs H R => ∃ G v xs, vs = [v] ∧ Same G H ∧ (∃ d, Dq G v d ∧ PyData.itemsOf d = some xs) ∧ SortOk xs ∧
    ∀ ys p, H p = none → DqAll G ys (xs.mergeSort dle) → R (.ref p) (upd H p (.lst ys))) := by
  intro pins s σ H vs us Q I r h
  obtain ⟨G, v, xs, rfl, g, ⟨d, hd, hi⟩, ok, q⟩ := h
  -- behind either call
  have fin : ∀ (zs : List V) (its out : List Value), zs.length = xs.length → zs.length ≤ sizeLine → PySem.W.EachIs (fun (u : Value) (b : V × PyData) => RelV b.1 u ∧ Dq G b.1 b.2) out ((zs.zip xs).mergeSort (PySem.W.dataLe false Prod.snd)) →
      ∃ (v : V) (H' : Hp), Inv X pins σ H' { s with heap := PyProof.Rows.sortedAll s.heap its (List.toArray out) } ∧ RelV v (.ref (s.heap.objs.size + 1)) ∧ Q v H' := fun zs its out hlen hz eo => by
    have hsnd : (zs.zip xs).map Prod.snd = xs := map_snd_zip' hlen
    obtain ⟨d1, v1⟩ := zip_each eo
    have e2 : ((zs.zip xs).mergeSort (PySem.W.dataLe false Prod.snd)).map Prod.snd = xs.mergeSort dle := by
      have := PySem.W.sort_maps (r := PySem.W.dataLe false Prod.snd) (s := dle) Prod.snd (l := zs.zip xs) (fun a _ b _ => rfl)
      rw [this, hsnd]
    rw [e2] at d1
    obtain ⟨ep, he'⟩ := PyProof.Rows.sortedAll_at s.heap its (List.toArray out)
    have hl2 : (((zs.zip xs).mergeSort (PySem.W.dataLe false Prod.snd)).map Prod.fst).length ≤ sizeLine := by
      rw [List.length_map, List.length_mergeSort, List.length_zip, ← hlen, Nat.min_self]
      exact hz
    exact ⟨.ref _, upd H (s.heap.objs.size + 1) (.lst (((zs.zip xs).mergeSort (PySem.W.dataLe false Prod.snd)).map Prod.fst)), I.laid (t' := s.toks) (fun _ _ => PyProof.Rows.sortedAll_old) (Nat.le_succ _) ⟨hl2, out, ep, v1, by simpa using he'⟩, rfl,
      q _ _ (I.hok.fresh (Nat.le_succ _)) d1⟩
  cases d with
  | list xs' =>
    cases hi
    obtain ⟨a, zs, rfl, ga, da⟩ := hd.lst_of
    rw [Vals.ref1 r]
    obtain ⟨its, rv, pl, hz⟩ := I.list (SqL.of (g _ _ ga))
    have hlen := da.length
    have hsnd : (zs.zip xs).map Prod.snd = xs := map_snd_zip' hlen
    have e := each_zip da rv
    refine PySem.W.sorted_data (bs := zs.zip xs) (enc := Prod.snd) (R := fun u b => RelV b.1 u ∧ Dq G b.1 b.2) pl.isList e (e.mono fun u b ⟨h1, h2⟩ => (h2.grow g).reads I h1) (by rw [hsnd]; exact ok.al) (by rw [hsnd]; exact ok.so) ?_ (fun b hb => ?_) fun out ho eo => fin zs its out hlen hz eo
    · rw [List.length_zip, ← hlen, Nat.min_self]
      exact hz
    · have := shal_plain _ _ (ok.sh b.2 (List.of_mem_zip hb).2)
      omega
  | tuple xs' =>
    cases hi
    cases hd with
    | tup h1 da =>
      rename_i a zs
      rw [Vals.ref1 r]
      obtain ⟨its, rv, pl, hz⟩ := I.tuple ((h1.grow g).sq)
      have hlen := da.length
      have hsnd : (zs.zip xs).map Prod.snd = xs := map_snd_zip' hlen
      have e := each_zip da rv
      refine sorted_tupd (bs := zs.zip xs) (enc := Prod.snd) (R := fun u b => RelV b.1 u ∧ Dq G b.1 b.2) pl e (e.mono fun u b ⟨h1, h2⟩ => (h2.grow g).reads I h1) (by rw [hsnd]; exact ok.al) (by rw [hsnd]; exact ok.so) ?_ (fun b hb => ?_) fun out ho eo => fin zs its out hlen hz eo
      · rw [List.length_zip, ← hlen, Nat.min_self]
        exact hz
      · have := shal_plain _ _ (ok.sh b.2 (List.of_mem_zip hb).2)
        omega
  | _ => cases hi
theorem sum_tupI {P : Program} {w : World} {A : Around} {E : Value → Shared → Prop} {s : Shared} {l : Addr} {its : List Value} {ns : List Int} {Q : Value → Shared → Prop} (hh : A.handled = none) (hl : s.heap.IsTuple l its.toArray) (hi : IntsAre its ns)
    (h : ∀ h' tk t', (∀ b o, s.heap.get? b = some o → h'.get? b = some o) → Q (.int ns.sum t') { s with heap := h', toks := tk }) : wpAny (model P w) A (call (.builtin "sum") [.ref l]) Q E s := by
  obtain ⟨xs, e⟩ := hi.allInts.items
  have hn : numsOf (intItems xs).toList = ns := by rw [← e]; exact hi.numsOf
  rw [nums_intItems] at hn
  rw [e] at hl
  have hlt : l < s.heap.objs.size := by obtain ⟨_, e, _⟩ := hl; exact Heap.lt_size e
  refine PySem.call_sum_walkG (wpAny_pyIter_tuple hl ?_)
  refine ⟨_, _, _, _, _, _, numAt xs, rfl, Walks.tuple (A := A.in1) hh _ l (Nat.ne_of_lt hlt) (intItems xs), ⟨⟨_, Heap.get?_push_size _ rfl, rfl, rfl⟩, hl.push _⟩, fun b hb => ?_, (fun _ _ => intItems_at), fun h' tk t' hk => ?_⟩
  · show b < (s.heap.push _).objs.size
    rw [Heap.size_push]
    rcases List.mem_cons.mp hb with rfl | hb
    · exact Nat.lt_succ_self _
    · rcases List.mem_cons.mp hb with rfl | hb
      · exact Nat.lt_succ_of_lt hlt
      · cases hb
  · have := h h' tk t' fun b o eo => hk b o (fun hb => absurd (Heap.lt_size eo) ((List.mem_singleton.mp hb) ▸ Nat.lt_irrefl _)) (Heap.get?_push_of_some _ eo)
    have e2 : preSum (numAt xs) (intItems xs).size = ns.sum := by
      rw [preSum_eq, List.take_of_length_le (by simp [intItems]), hn]
    rw [e2]
    exact this
theorem cr_sumT (hc : X.calm = true) : CallR X (.builtin "sum") (fun vs H R => ∃ (a : Addr) (ns : List Int), vs = [V.ref a] ∧ SqT X.K H a (ns.map V.int) ∧ R (.int ns.sum) H) := by
  intro pins s σ H vs us Q I r h
  obtain ⟨a, ns, rfl, hs, q⟩ := h
  obtain ⟨its, rv, hl, _⟩ := I.tuple hs
  rw [Vals.ref1 r]
  exact sum_tupI (I.ok.hd hc) hl rv.ints fun h' tk t' hk => ⟨.int ns.sum, H, I.kept hk, ⟨t', rfl⟩, q⟩
theorem depthAll_ints : ∀ ns : List Int, PyData.depthAll (ns.map PyData.int) ≤ 1
  | [] => by decide
  | m :: ns => by
    have ih := depthAll_ints ns
    rw [List.map_cons]
    simp only [PyData.depthAll, PyData.depth]
    omega
theorem cr_maxDf (hc : X.calm = true) (hu : X.A.units + 200 < cLine) : CallRK X (.builtin "max") ["default"] (fun vs zs H R => ∃ (a : Addr) (ns : List Int) (n : Int), vs = [V.ref a] ∧ zs = [.int n] ∧ SqL X.K H a (ns.map V.int) ∧ R (.int (maxDf n ns)) H) := by
  intro pins s σ H xs zs us ws Q I rx rz h
  obtain ⟨a, ns, n, rfl, rfl, hs, q⟩ := h
  obtain ⟨its, rv, hl, _⟩ := I.list hs
  rw [Vals.ref1 rx]
  obtain ⟨u, rfl, t, rfl⟩ := vals1 rz
  have hd := depthAll_ints ns
  refine PySem.W.max_list_default (xs := ns.map PyData.int) (as := []) (I.ok.hd hc) hl.isList (by rw [List.toList_toArray]; exact PySem.W.readsAll_of_ints rv.ints) ?_ (by omega) (fun e h' tk hk => ?_) fun y ys i v h' tk bs e hv r hk => ?_
  · refine ⟨fun x hx y hy => ?_, fun x hx z => ?_⟩
    · obtain ⟨m, _, rfl⟩ := List.mem_map.mp hx
      obtain ⟨k, _, rfl⟩ := List.mem_map.mp hy
      simp [PySem.W.alike]
    · obtain ⟨m, _, rfl⟩ := List.mem_map.mp hx
      cases z
  · have e : ns = [] := List.map_eq_nil_iff.mp e
    subst e
    exact ⟨.int n, H, I.kept hk, ⟨_, rfl⟩, q⟩
  · cases ns with
    | nil => cases e
    | cons m ns =>
      rw [List.map_cons] at e
      cases e
      rw [PySem.W.maxD_ints] at r
      obtain ⟨t', rfl, _⟩ := reads_int_inv r
      exact ⟨.int _, H, I.kept hk, ⟨_, rfl⟩, q⟩
end
end Tr
set_option Elab.async false
set_option linter.all false
set_option maxRecDepth 100000
set_option maxHeartbeats 1000000
namespace Tr
open PySem PySem.Spec PyProof.Rows L2
open Sem (wp)
/-- the lists that have come -/
def preL (val : Nat → List Value) : Nat → List Value
  | 0 => []
  | n + 1 => preL val n ++ val n
theorem add_at {prog : Program} {w : World} {A : Around} {E : Value → Shared → Prop} {s : Shared} {l b : Addr} {vs ws : List Value} {Q : Value → Shared → Prop} (hl : s.heap.IsList l vs.toArray) (hb : s.heap.IsList b ws.toArray)
    (hsz : vs.length + ws.length ≤ sizeLine) (h : Q (.ref s.heap.objs.size) { s with heap := s.heap.push { cls := .type "list", data := .seq (vs ++ ws).toArray } }) :
    wpAny (model prog w) A (binaryOp .Add (.ref l) (.ref b)) Q E s := by
  obtain ⟨⟨cls, dd, data, sl⟩, ho, hc, n, hd⟩ := id hl
  obtain ⟨⟨cls2, dd2, data2, sl2⟩, ho2, hc2, n2, hd2⟩ := id hb
  simp only at hc hd hc2 hd2
  subst hc hd hc2 hd2
  have e : vs.toArray ++ ws.toArray = (vs ++ ws).toArray := by simp
  refine concat_meets ⟨_, ho, rfl⟩ ⟨_, ho2, rfl⟩ noFill_list_add seq_list_add PySem.F.slot_list_add PySem.F.entry_list_add (PySem.F.args_list_add_2 _ _) (list_addW l b vs.toArray ws.toArray n n2 dd dd2 sl sl2 (by simpa using hsz)) ⟨ho, ho2, ?_⟩
  rw [e]
  exact h
theorem isList_keep {h h' : Heap} {a : Addr} {v : Array Value} (k : ∀ o, h.get? a = some o → h'.get? a = some o) (x : h.IsList a v) : h'.IsList a v := by
  obtain ⟨o, e, r⟩ := x
  exact ⟨o, k o e, r⟩
/-- a plain list -/
def LsA (h : Heap) (a : Addr) (v : List Value) : Prop := ∃ n, h.get? a = some { cls := .type "list", data := .seq v.toArray n }
theorem LsA.isList {h : Heap} {a : Addr} {v : List Value} (x : LsA h a v) : h.IsList a v.toArray := by
  obtain ⟨n, e⟩ := x
  exact ⟨_, e, rfl, n, rfl⟩
theorem lsA_keep {h h' : Heap} {a : Addr} {v : List Value} (k : ∀ o, h.get? a = some o → h'.get? a = some o) (x : LsA h a v) : LsA h' a v := by
  obtain ⟨n, e⟩ := x
  exact ⟨n, k _ e⟩
section
variable {prog : Program} {w : World} {A : Around} {R : Result → Shared → Prop} {I : Addr} {fp wr : List Addr} {G : Array GenState → Array GenState → Prop} {n : Nat} {P : Nat → Value → Prop} {St : Nat → Shared → Prop}
theorem codeAny_sum_loopL (W : WalksS prog w A.in1 I fp wr G n P St) (hwr : ∀ i s, St i s → ∀ b ∈ wr, b < s.heap.objs.size) (val : Nat → List Value) (adr : Nat → Addr) (hval : ∀ i v, P i v → v = .ref (adr i)) (S : Addr) (hSf : S ∉ fp) (hsz : ∀ i, i ≤ n → (preL val i).length ≤ sizeLine) :
    ∀ (k i : Nat) (s : Shared) (acc : Addr) (c : Nat), n - i = k → i ≤ n → St i s → s.heap.get? S = some { cls := .type "list", dict := none, data := .seq #[.ref acc] c, slots := #[] } →
    LsA s.heap acc (preL val i) → acc ∉ S :: wr → (∀ j, i ≤ j → j < n → s.heap.IsList (adr j) (val j).toArray ∧ adr j ∉ S :: wr) →
    (∀ s' acc', Moved (S :: wr) G s s' → LsA s'.heap acc' (preL val n) → ((acc' = acc ∧ i = n) ∨ S < acc') → R (.ok (.ret (.ref acc'))) s') → codeAny (model prog w) A (.builtin "sum.loop" ⟨[.ref I, .ref S, rawInt 2, rawInt 0], []⟩) R s := by
  have hSw : S ∉ wr := fun h => hSf (W.sub _ h)
  have hsub : ∀ b ∈ wr, b ∈ S :: wr := fun b hb => List.mem_cons_of_mem _ hb
  intro k
  induction k with
  | zero =>
    intro i s acc c hk hi hst hS hacc hna hadr hR
    have hin : i = n := by omega
    subst hin
    refine codeAny_builtin F.entry_sum_loop ?_
    rw [Around.under_plainId F.plain_sum_loop _]
    show wpAny _ A.in1 (seqItems? (.ref S) >>= _) _ _ s
    refine wpAny_bind (wpAny_seqItems hS rfl ?_)
    show wpAny _ A.in1 (tryCatch (pyNext (.ref I)) _ >>= _) _ _ s
    refine wpAny_bind (wpAny_tryCatch (W.done s _ _ hst fun s' hm => ?_))
    have h2 := lsA_keep (fun o e => hm.heap acc o (fun hb => hna (hsub _ hb)) e) hacc
    exact wpAny_pure (hR s' acc (hm.mono hsub) h2 (.inl ⟨rfl, rfl⟩))
  | succ k ih =>
    intro i s acc c hk hi hst hS hacc hna hadr hR
    have hlt : i < n := by omega
    refine codeAny_builtin F.entry_sum_loop ?_
    rw [Around.under_plainId F.plain_sum_loop _]
    show wpAny _ A.in1 (seqItems? (.ref S) >>= _) _ _ s
    refine wpAny_bind (wpAny_seqItems hS rfl ?_)
    show wpAny _ A.in1 (tryCatch (pyNext (.ref I)) _ >>= _) _ _ s
    refine wpAny_bind (wpAny_tryCatch (W.item i s _ _ hlt hst fun v s' hP hst' hm => ?_))
    have hv := hval i v hP
    subst hv
    have hS' := hm.heap S _ hSw hS
    obtain ⟨had, hnad⟩ := hadr i (Nat.le_refl _) hlt
    have hacc' := lsA_keep (fun o e => hm.heap acc o (fun hb => hna (hsub _ hb)) e) hacc
    have had' := isList_keep (fun o e => hm.heap (adr i) o (fun hb => hnad (hsub _ hb)) e) had
    have hws := hwr _ _ hst'
    have hSs : S < s'.heap.objs.size := Heap.lt_size hS'
    have hpre : preL val i ++ val i = preL val (i + 1) := rfl
    have h1 := hsz (i + 1) hlt
    show wpAny _ A.in1 ((holding [Value.ref (adr i)] (binaryOp .Add (.ref acc) (.ref (adr i)))).attempt >>= _) _ _ _
    refine wpAny_bind (wpAny_attempt (wpAny_holding (add_at hacc'.isList had' (by rw [← List.length_append, hpre]; exact h1) ?_)))
    rw [hpre]
    have hS1 : (s'.heap.push { cls := .type "list", data := .seq (preL val (i + 1)).toArray }).get? S = some { cls := .type "list", dict := none, data := .seq #[.ref acc] c, slots := #[] } := Heap.get?_push_of_some _ hS'
    show wpAny _ A.in1 (updateSeq S (fun _ => #[Value.ref s'.heap.objs.size]) >>= _) _ _ _
    refine wpAny_bind (wpAny_updateSeq hS1 rfl ?_)
    have hS₂ := Heap.get?_update_self (Obj.mapSeq fun _ => #[Value.ref s'.heap.objs.size]) hS1 rfl
    refine wpAny_bind (wpAny_letGo ?_)
    have oth : ∀ b o, b ≠ S → s'.heap.get? b = some o → (((s'.heap.push { cls := .type "list", data := .seq (preL val (i + 1)).toArray }).update S (Obj.mapSeq fun _ => #[Value.ref s'.heap.objs.size])).update S (Obj.mapSeq fun _ => #[Value.ref s'.heap.objs.size])).get? b = some o := fun b o hb e =>
      (Heap.get?_update_other _ _ (Ne.symm hb)).trans ((Heap.get?_update_other _ _ (Ne.symm hb)).trans (Heap.get?_push_of_some _ e))
    have hnS : s'.heap.objs.size ≠ S := Nat.ne_of_gt hSs
    have new : LsA (((s'.heap.push { cls := .type "list", data := .seq (preL val (i + 1)).toArray }).update S (Obj.mapSeq fun _ => #[Value.ref s'.heap.objs.size])).update S (Obj.mapSeq fun _ => #[Value.ref s'.heap.objs.size])) s'.heap.objs.size (preL val (i + 1)) :=
      ⟨0, (Heap.get?_update_other _ _ (Ne.symm hnS)).trans ((Heap.get?_update_other _ _ (Ne.symm hnS)).trans (Heap.get?_push_size _ rfl))⟩
    have hm2 : Moved (S :: wr) G s { s' with heap := ((s'.heap.push { cls := .type "list", data := .seq (preL val (i + 1)).toArray }).update S (Obj.mapSeq fun _ => #[Value.ref s'.heap.objs.size])).update S (Obj.mapSeq fun _ => #[Value.ref s'.heap.objs.size]), toks := s'.toks } :=
      (hm.mono hsub).then_heap (Nat.le_refl _) fun b o hb e => oth b o (fun h => hb (by rw [h]; exact List.mem_cons_self)) e
    have hnw : s'.heap.objs.size ∉ S :: wr := fun h => by
      rcases List.mem_cons.mp h with h | h
      · exact hnS h
      · exact Nat.lt_irrefl _ (hws _ h)
    refine wpAny_bind (wpAny_updateSeq hS₂ rfl (wpAny_pure ⟨plainId_quiet F.plain_sum_loop _, ih (i + 1) _ s'.heap.objs.size _ (by omega) hlt (W.frame _ s' _ _ hst' (Nat.le_refl _) fun b hb o e => oth b o (fun h => hSf (by rw [← h]; exact hb)) e) (Heap.get?_update_self _ hS₂ rfl) new hnw (fun j hj hjn => ?_) fun s'' acc'' hm'' hl'' hor => ?_⟩))
    · obtain ⟨q1, q2⟩ := hadr j (by omega) hjn
      exact ⟨isList_keep (fun o e => oth _ o (fun h => q2 (by rw [h]; exact List.mem_cons_self)) (hm.heap _ o (fun hb => q2 (hsub _ hb)) e)) q1, q2⟩
    · refine hR s'' acc'' (Moved.trans W.gtrans hm2 hm'') hl'' (.inr ?_)
      rcases hor with ⟨rfl, _⟩ | h2
      · exact hSs
      · exact h2
end
theorem args_sum2 (a b : Value) : argsOk "sum" ⟨[a, b], []⟩ := by unfold argsOk; kernel_rfl
theorem sub_list_str' : isSubtype (.type "list") (.type "str") = pure false := by rw [isSubtype_type]; kernel_rfl
theorem sub_list_bytes' : isSubtype (.type "list") (.type "bytes") = pure false := by rw [isSubtype_type]; kernel_rfl
theorem sub_list_bytearray' : isSubtype (.type "list") (.type "bytearray") = pure false := by rw [isSubtype_type]; kernel_rfl
section
variable {prog : Program} {w : World} {A : Around} {E : Value → Shared → Prop} {s : Shared}
/-- sum(lists, []) -/
theorem call_sum_lists {l p : Addr} {its : List Value} {val : Nat → List Value} {adr : Nat → Addr} {Q : Value → Shared → Prop} (hh : A.handled = none) (hl : s.heap.IsList l its.toArray) (hp : LsA s.heap p []) (hn : its ≠ [])
    (hits : ∀ (i : Nat) (v : Value), its[i]? = some v → v = Value.ref (adr i)) (hadr : ∀ i, i < its.length → s.heap.IsList (adr i) (val i).toArray) (hsz : ∀ i, i ≤ its.length → (preL val i).length ≤ sizeLine)
    (h : ∀ h' tk acc, (∀ b o, s.heap.get? b = some o → h'.get? b = some o) → LsA h' acc (preL val its.length) → s.heap.objs.size ≤ acc → Q (.ref acc) { s with heap := h', toks := tk }) :
    wpAny (model prog w) A (call (.builtin "sum") [.ref l, .ref p]) Q E s := by
  have hlt : l < s.heap.objs.size := by obtain ⟨_, e, _⟩ := hl; exact Heap.lt_size e
  refine call_function_tree F.kind_sum F.plain_sum F.entry_sum (args_sum2 _ _) ?_
  unfold Builtin.«sum»
  simp only [List.length_cons, List.length_nil]
  rw [if_neg (by decide)]
  refine wpAny_bind (wpAny_of_eq (show Builtin.Builtins.bindParams "sum" ["start"] 0 ⟨[.ref p], []⟩ = pure [some (.ref p)] from rfl) ?_)
  refine wpAny_bind (PySem.W.iter_listW (by exact hh) hl fun s₂ e2 W hst hfp _ hk => ?_)
  have hp2 : s₂.heap.IsList p #[] := (lsA_keep (fun o e => hk p o e) hp).isList
  have hI : ∀ b o, s.heap.get? b = some o → b < s.heap.objs.size := fun b o e => Heap.lt_size e
  refine wpAny_bind (wpAny_pure ?_)
  obtain ⟨o, ho, hc, n, hd⟩ := id hp2
  simp only [List.forIn_cons, List.forIn_nil]
  refine wpAny_bind (wpAny_bind (wpAny_bind (wpAny_isInstance (T := "list") (b := false) ⟨o, ho, hc⟩ sub_list_str' ?_)))
  simp only [Bool.false_eq_true, if_false]
  refine wpAny_pure (wpAny_bind (wpAny_bind (wpAny_isInstance (T := "list") (b := false) ⟨o, ho, hc⟩ sub_list_bytes' ?_)))
  simp only [Bool.false_eq_true, if_false]
  refine wpAny_pure (wpAny_bind (wpAny_bind (wpAny_isInstance (T := "list") (b := false) ⟨o, ho, hc⟩ sub_list_bytearray' ?_)))
  simp only [Bool.false_eq_true, if_false]
  refine wpAny_pure (wpAny_pure ?_)
  refine wpAny_bind (wpAny_newObj_type ?_)
  have hSf : s₂.heap.objs.size ∉ [s.heap.objs.size, l] := fun hm => Nat.lt_irrefl _ (hfp _ hm)
  have hs2 : s.heap.objs.size < s₂.heap.objs.size := hfp _ (by simp)
  have far : ∀ b o, s.heap.get? b = some o → b ∉ [s₂.heap.objs.size, s.heap.objs.size] := fun b o e hb => by
    have := Heap.lt_size e
    simp only [List.mem_cons, List.not_mem_nil, or_false] at hb
    rcases hb with z | z
    · rw [z] at this
      exact Nat.lt_irrefl _ (Nat.lt_trans this hs2)
    · rw [z] at this
      exact Nat.lt_irrefl _ this
  have kp : ∀ b o, s.heap.get? b = some o → (s₂.heap.push { cls := .type "list", data := .seq #[.ref p] }).get? b = some o := fun b o e => Heap.get?_push_of_some _ (hk b o e)
  refine wpAny_pure ⟨plainId_quiet F.plain_sum_loop _, codeAny_sum_loopL W (fun i s' st b hb => ?_) val adr (fun i v hv => hits i v (by simpa using hv)) s₂.heap.objs.size hSf (by simpa using hsz) its.toArray.size 0 _ p 0 rfl (Nat.zero_le _)
    (W.frame 0 s₂ _ _ hst (Nat.le_refl _) fun b _ o e => Heap.get?_push_of_some _ e) (Heap.get?_push_size _ rfl) (lsA_keep (fun o e => kp p o e) hp) ?_ (fun j _ hj => ?_) fun s' acc hm hl' hor => ?_⟩
  · rw [List.mem_singleton.mp hb]
    obtain ⟨o, e, _⟩ := st.1
    exact Heap.lt_size e
  · obtain ⟨n, e⟩ := hp
    exact far p _ e
  · have := hadr j (by simpa using hj)
    obtain ⟨o, e, _⟩ := id this
    exact ⟨isList_keep (fun o e => kp _ o e) this, far _ o e⟩
  · have hkk : ∀ b o, s.heap.get? b = some o → s'.heap.get? b = some o := fun b o e => hm.heap b o (far b o e) (kp b o e)
    have e0 : s.heap.objs.size ≤ acc := by
      rcases hor with ⟨_, e⟩ | e
      · exact absurd e (by simpa using fun z => hn (List.length_eq_zero_iff.mp z.symm))
      · exact Nat.le_of_lt (Nat.lt_trans hs2 e)
    have e1 : its.toArray.size = its.length := by simp
    rw [e1] at hl'
    have := h s'.heap s'.toks acc hkk hl' e0
    have e4 : s' = { s with heap := s'.heap, toks := s'.toks } := by
      have g1 := hm.gens
      have g2 := hm.drawn
      have g3 := hm.os
      rw [e2] at g1 g2 g3
      obtain ⟨hp, g, d, tk, os⟩ := s'
      simp only at g1 g2 g3
      subst g1 g2 g3
      rfl
    rw [e4]
    exact this
end
theorem preL_mono (val : Nat → List Value) : ∀ {i n : Nat}, i ≤ n → (preL val i).length ≤ (preL val n).length
  | i, 0, h => by
    rw [Nat.le_zero.mp h]
    exact Nat.le_refl _
  | i, n + 1, h => by
    by_cases e : i = n + 1
    · rw [e]
      exact Nat.le_refl _
    · refine Nat.le_trans (preL_mono val (show i ≤ n by omega)) ?_
      rw [preL, List.length_append]
      omega
theorem preL_eq (L : List (Addr × List V × List Value)) : ∀ n, preL (fun i => ((L[i]?).map (·.2.2)).getD []) n = (L.take n).flatMap (·.2.2)
  | 0 => rfl
  | n + 1 => by
    rw [preL, preL_eq L n, List.take_add_one]
    cases e : L[n]? with
    | none => simp
    | some t => simp
section
variable {X : Cx} {pins : List (Addr × Obj)} {σ : L2.St} {H G : Hp} {s : Shared}
theorem lists_at (I : Inv X pins σ H s) (g : Same G H) : ∀ {vs : List V} {xs : List PyData} {xss : List (List PyData)} {its : List Value}, DqAll G vs xs → listsOf xs = some xss → Vals vs its →
    ∃ L : List (Addr × List V × List Value), its = L.map (fun t => .ref t.1) ∧ (∀ t ∈ L, LsA s.heap t.1 t.2.2) ∧ Vals (L.flatMap (·.2.1)) (L.flatMap (·.2.2)) ∧ DqAll G (L.flatMap (·.2.1)) xss.flatten ∧ L.length = xss.length
  | _, _, xss, _, .nil, h, .nil => by
    cases h
    exact ⟨[], rfl, fun t ht => (nomatch ht), .nil, .nil, rfl⟩
  | _, _, xss, _, .cons (v := v) (d := d) h1 h2, h, .cons r1 r2 => by
    cases d with
    | list ds =>
      rw [listsOf] at h
      obtain ⟨yss, e1, e2⟩ := Option.map_eq_some_iff.mp h
      subst e2
      obtain ⟨L, q1, q2, q3, q4, q5⟩ := lists_at I g h2 e1 r2
      obtain ⟨a, zs, rfl, ga, da⟩ := h1.lst_of
      cases r1
      obtain ⟨_, its, n, rv, ho⟩ := I.hok a _ (g _ _ ga)
      refine ⟨(a, zs, its) :: L, by rw [q1]; rfl, fun t ht => ?_, ?_, ?_, by simp [q5]⟩
      · rcases List.mem_cons.mp ht with e | ht
        · rw [e]
          exact ⟨n, ho⟩
        · exact q2 t ht
      · rw [List.flatMap_cons, List.flatMap_cons]
        exact rv.append q3
      · rw [List.flatMap_cons, List.flatten_cons]
        exact da.append q4
    | _ => cases h
end
section
variable {X : Cx}
theorem cr_sumL (hc : X.calm = true) : CallR X (.builtin "sum") (fun vs H R => ∃ v u, vs = [v, u] ∧ ∃ G xs xss, Same G H ∧ Dq G v (.list xs) ∧ Dq G u (.list []) ∧ listsOf xs = some xss ∧ xss ≠ [] ∧ xss.flatten.length ≤ sizeLine ∧ ∀ ys p, H p = none → DqAll G ys xss.flatten → R (.ref p) (upd H p (.lst ys))) := by
  intro pins s σ H vs us Q I r h
  obtain ⟨v, u, rfl, G, xs, xss, g, dv, du, hl, hne, hsz, q⟩ := h
  obtain ⟨a, zs, rfl, ga, da⟩ := dv.lst_of
  obtain ⟨b, ws, rfl, gb, db⟩ := du.lst_of
  cases db
  cases r with
  | cons r1 r =>
    cases r with
    | cons r2 r =>
      cases r
      cases r1
      cases r2
      obtain ⟨_, its, n, rv, ho⟩ := I.hok a _ (g _ _ ga)
      obtain ⟨_, its2, n2, rv2, ho2⟩ := I.hok b _ (g _ _ gb)
      cases rv2
      obtain ⟨L, q1, q2, q3, q4, q5⟩ := lists_at I g da hl rv
      have hlen : its.length = L.length := by rw [q1, List.length_map]
      have e1 : preL (fun i => ((L[i]?).map (·.2.2)).getD []) its.length = L.flatMap (·.2.2) := by rw [preL_eq, hlen, List.take_length]
      have hfl : (L.flatMap (·.2.2)).length = xss.flatten.length := by rw [← q3.length, q4.length]
      refine call_sum_lists (its := its) (val := fun i => ((L[i]?).map (·.2.2)).getD []) (adr := fun i => ((L[i]?).map (·.1)).getD 0) (I.ok.hd hc) ⟨_, ho, rfl, n, rfl⟩ ⟨n2, ho2⟩ (fun z => ?_) (fun i v hv => ?_) (fun i hi => ?_) (fun i hi => ?_) fun h' tk acc hk hl' ha => ?_
      · rw [z, List.length_nil] at hlen
        exact hne (List.length_eq_zero_iff.mp (by omega))
      · rw [q1, List.getElem?_map] at hv
        obtain ⟨t, ht, rfl⟩ := Option.map_eq_some_iff.mp hv
        rw [ht]
        rfl
      · have hi' : i < L.length := by omega
        rw [List.getElem?_eq_getElem hi']
        exact (q2 _ (List.getElem_mem hi')).isList
      · refine Nat.le_trans (preL_mono _ hi) ?_
        rw [e1, hfl]
        exact hsz
      · rw [e1] at hl'
        obtain ⟨n3, ho3⟩ := hl'
        exact ⟨.ref acc, upd H acc (.lst (L.flatMap (·.2.1))), I.laid (t' := tk) hk ha ⟨by rw [q4.length]; exact hsz, _, n3, q3, ho3⟩, rfl, q _ _ (I.hok.fresh ha) q4⟩
end
end Tr
set_option Elab.async false
set_option linter.all false
set_option maxRecDepth 100000
set_option maxHeartbeats 1000000
namespace Tr
open PySem PySem.Spec PyProof.Rows L2
section
variable {Γ : Gam} {N : List Str} {sc : Scope} {X : Cx} {l r : Expr} {pos px : Pos} {w w1 w2 : WE}
def Bn.scal : Bn → Bool
  | .bool | .len | .abs | .int | .str | .repr | .sum | .any | .all | .max | .min => true
  | _ => false
theorem items_dq {K : PySem.W.Frag} {H : Hp} {v : V} {d : PyData} {xs : List PyData} (h : Dq H v d) (e : PyData.itemsOf d = some xs) : ∃ p vs, v = .ref p ∧ (SqL K H p vs ∨ SqT K H p vs) ∧ DqAll H vs xs := by
  cases h with
  | lst h1 h2 => cases e; exact ⟨_, _, rfl, .inl (SqL.of h1), h2⟩
  | tup h1 h2 => cases e; exact ⟨_, _, rfl, .inr h1.sq, h2⟩
  | _ => cases e
theorem OR.nowS {K : PySem.W.Frag} {G H : Hp} {v : V} {d : PyData} {M : List Addr} (g : Same G H) (r : OR K G H (.d d) v M) : Dq H v d := r.now g rfl
/-- a built-in whose value is a number, a truth value or a text, of what stands now -/
theorem e_bltv (g : Gd Γ N sc X) (b : Bn) (hb : b.scal = true) {f : Str} (hf : f = b.nm) (hg : glB sc f = true) (ha : PE X l (liftR X.K w)) (pl : plainE l = true) :
    PB X (.Call (.Name f px) [l] [] pos) (fun ρ Q => w ρ fun x ρ1 => bltO b [x] fun z => Q z ρ1) := by
  subst hf
  have sp := starEach_plain (es := []) (env := X.env) pl
  have gl := g.glo hg
  have pa : PA X [l] (tCons (liftR X.K w) tNil) := pa_cons ha pa_nil sp
  have use : ∀ {r : List V → Hp → VK → Prop} {σ : L2.St} {H : Hp} {R : VK}, lift X.K (fun ρ Q => w ρ fun x ρ1 => bltO b [x] fun z => Q z ρ1) σ H R →
      (∀ F G ρ L x v M Q H1 R', Sta X.K F G H1 ρ σ L → OR X.K G H1 x v M → bltO b [x] (fun z => Q z ρ) → Kont X.K F G σ Q R' → r [v] H1 R') → tCB r (tCons (liftR X.K w) tNil) σ H R := by
    rintro r σ H R ⟨F, G, ρ, L, Q, s, hw, k⟩ hr
    exact ⟨F, G, ρ, L, _, s, hw, fun x v ρ1 G1 H1 L1 M a q hB => hr F G1 ρ1 L1 x v M Q H1 R a.st q hB (Kont.step k a)⟩
  cases b with
  | len =>
    refine .val (PE.imp (pe_callB call_len_seq gl (g.bl _ (by decide)) (by decide +kernel) pa (by decide) (by decide) sp rfl) fun σ H R h => use h fun F G ρ L x v M Q H1 R' s q hB k => ?_)
    obtain ⟨x', n, e, hl, hq⟩ := hB
    cases e
    obtain ⟨p, vs, rfl, hs, hn⟩ := len_at s.gh q hl
    exact ⟨p, vs, rfl, hs, by rw [hn]; exact k.data s (.int _) hq⟩
  | bool =>
    refine .val (PE.imp (pe_callTy call_bool1 gl (g.bl _ (by decide)) (by decide +kernel) pa (by decide) (by decide) sp rfl) fun σ H R h => use h fun F G ρ L x v M Q H1 R' s q hB k => ?_)
    obtain ⟨i, e, hq⟩ := hB
    cases e
    exact .inl ⟨i, by rw [(q.nowS s.gh).int_of], k.data s (.bl _) hq⟩
  | abs =>
    refine .val (PE.imp (pe_callB call_abs gl (g.bl _ (by decide)) (by decide +kernel) pa (by decide) (by decide) sp rfl) fun σ H R h => use h fun F G ρ L x v M Q H1 R' s q hB k => ?_)
    obtain ⟨i, e, hq⟩ := hB
    cases e
    exact ⟨i, by rw [(q.nowS s.gh).int_of], k.data s (.int _) hq⟩
  | int =>
    refine .val (PE.imp (pe_callTy call_int1 gl (g.bl _ (by decide)) (by decide +kernel) pa (by decide) (by decide) sp rfl) fun σ H R h => use h fun F G ρ L x v M Q H1 R' s q hB k => ?_)
    obtain ⟨d, i, e, hi, hq⟩ := hB
    cases e
    cases d with
    | int j => cases hi; exact .inl ⟨_, by rw [(q.nowS s.gh).int_of], k.data s (.int _) hq⟩
    | bool c => cases hi; exact .inr ⟨_, by rw [(q.nowS s.gh).bl_of], k.data s (.int _) hq⟩
    | _ => cases hi
  | str =>
    refine .val (PE.imp (pe_callTy call_str_int gl (g.bl _ (by decide)) (by decide +kernel) pa (by decide) (by decide) sp rfl) fun σ H R h => use h fun F G ρ L x v M Q H1 R' s q hB k => ?_)
    obtain ⟨i, e, hz, hq⟩ := hB
    cases e
    exact ⟨i, by rw [(q.nowS s.gh).int_of], hz, k.data s (.str _) hq⟩
  | repr =>
    refine .val (PE.imp (pe_callB (cr_repr g.gd g.un) gl (g.bl _ (by decide)) (by decide +kernel) pa (by decide) (by decide) sp rfl) fun σ H R h => use h fun F G ρ L x v M Q H1 R' s q hB k => ?_)
    obtain ⟨x', d, xs, e, hd, hi, ok, hq⟩ := hB
    cases e
    exact ⟨v, d, xs, rfl, q.now s.gh hd, hi, ok, k.data s (.str _) hq⟩
  | sum =>
    refine .val (PE.imp (pe_callB ((cr_sum g.calm).or (cr_sumT g.calm)) gl (g.bl _ (by decide)) (by decide +kernel) pa (by decide) (by decide) sp rfl) fun σ H R h => use h fun F G ρ L x v M Q H1 R' s q hB k => ?_)
    obtain ⟨x', d, xs, ns, e, hd, hi, hn, hq⟩ := hB
    cases e
    obtain ⟨p, vs, rfl, hs, ha⟩ := items_dq (K := X.K) (q.now s.gh hd) hi
    have e1 := ints_of ha hn
    subst e1
    rcases hs with hs | hs
    · exact .inl ⟨p, ns, rfl, hs, k.data s (.int _) hq⟩
    · exact .inr ⟨p, ns, rfl, hs, k.data s (.int _) hq⟩
  | any =>
    refine .val (PE.imp (pe_callB (cr_any g.calm) gl (g.bl _ (by decide)) (by decide +kernel) pa (by decide) (by decide) sp rfl) fun σ H R h => use h fun F G ρ L x v M Q H1 R' s q hB k => ?_)
    obtain ⟨x', xs, ns, e, hd, hn, hq⟩ := hB
    cases e
    obtain ⟨p, vs, rfl, hs, ha⟩ := (q.now s.gh hd).lst_of
    have e1 := bools_of ha hn
    subst e1
    exact ⟨p, ns, rfl, SqL.of hs, k.data s (.bl _) hq⟩
  | all =>
    refine .val (PE.imp (pe_callB (cr_all g.calm) gl (g.bl _ (by decide)) (by decide +kernel) pa (by decide) (by decide) sp rfl) fun σ H R h => use h fun F G ρ L x v M Q H1 R' s q hB k => ?_)
    obtain ⟨x', xs, ns, e, hd, hn, hq⟩ := hB
    cases e
    obtain ⟨p, vs, rfl, hs, ha⟩ := (q.now s.gh hd).lst_of
    have e1 := bools_of ha hn
    subst e1
    exact ⟨p, ns, rfl, SqL.of hs, k.data s (.bl _) hq⟩
  | max =>
    refine .val (PE.imp (pe_callB (cr_max g.calm) gl (g.bl _ (by decide)) (by decide +kernel) pa (by decide) (by decide) sp rfl) fun σ H R h => use h fun F G ρ L x v M Q H1 R' s q hB k => ?_)
    obtain ⟨x', xs, n, ns, e, hd, hn, hq⟩ := hB
    cases e
    obtain ⟨p, vs, rfl, hs, ha⟩ := (q.now s.gh hd).lst_of
    have e1 := ints_of ha hn
    subst e1
    refine ⟨p, n :: ns, rfl, SqL.of hs, by simp, fun m hm hall => ?_⟩
    obtain ⟨f1, f2⟩ := foldl_max_spec ns n
    have em : m = ns.foldl max n := Int.le_antisymm (f2 m hm) (hall _ f1)
    rw [em]
    exact k.data s (.int _) hq
  | min =>
    refine .val (PE.imp (pe_callB (cr_min g.calm) gl (g.bl _ (by decide)) (by decide +kernel) pa (by decide) (by decide) sp rfl) fun σ H R h => use h fun F G ρ L x v M Q H1 R' s q hB k => ?_)
    obtain ⟨x', xs, n, ns, e, hd, hn, hq⟩ := hB
    cases e
    obtain ⟨p, vs, rfl, hs, ha⟩ := (q.now s.gh hd).lst_of
    have e1 := ints_of ha hn
    subst e1
    refine ⟨p, n :: ns, rfl, SqL.of hs, by simp, fun m hm hall => ?_⟩
    obtain ⟨f1, f2⟩ := foldl_min_spec ns n
    have em : m = ns.foldl min n := Int.le_antisymm (hall _ f1) (f2 m hm)
    rw [em]
    exact k.data s (.int _) hq
  | _ => cases hb
/-- tuple(x), list(x), sorted(x), and the others of a value -/
theorem e_blt1 (g : Gd Γ N sc X) (b : Bn) (hb : b ≠ .max2 ∧ b ≠ .min2 ∧ b ≠ .suml) {f : Str} (hf : f = b.nm) (hg : glB sc f = true) (ha : PE X l (lift X.K w)) (pl : plainE l = true) :
    PB X (.Call (.Name f px) [l] [] pos) (fun ρ Q => w ρ fun x ρ1 => bltO b [x] fun z => Q z ρ1) := by
  by_cases hs : b.scal = true
  · exact e_bltv g b hs hf hg (PE.imp ha fun _ _ _ q => liftR_of q) pl
  subst hf
  have sp := starEach_plain (es := []) (env := X.env) pl
  have gl := g.glo hg
  have pa : PA X [l] (tCons (lift X.K w) tNil) := pa_cons ha pa_nil sp
  have use : ∀ {r : List V → Hp → VK → Prop} {σ : L2.St} {H : Hp} {R : VK}, lift X.K (fun ρ Q => w ρ fun x ρ1 => bltO b [x] fun z => Q z ρ1) σ H R →
      (∀ F G ρ L x v M Q H1 R', Sta X.K F G H1 ρ σ L → Val X.K F G H1 L x v M → bltO b [x] (fun z => Q z ρ) → Kont X.K F G σ Q R' → r [v] H1 R') → tCB r (tCons (lift X.K w) tNil) σ H R := by
    rintro r σ H R ⟨F, G, ρ, L, Q, s, hw, k⟩ hr
    exact ⟨F, G, ρ, L, _, s, hw, fun x v ρ1 G1 H1 L1 M a q hB => hr F G1 ρ1 L1 x v M Q H1 R a.st q hB (Kont.step k a)⟩
  cases b with
  | tuple =>
    refine .val (PE.imp (pe_callTy cf_tuple gl (g.bl _ (by decide)) (by decide +kernel) pa (by decide) (by decide) sp rfl) fun σ H R h => use h fun F G ρ L x v M Q H1 R' s q hB k => ?_)
    obtain ⟨x', d, xs, e, hd, hi, hq⟩ := hB
    cases e
    obtain ⟨a, dq⟩ := s.frozen q hd
    cases dq with
    | lst h1 h2 => cases hi; exact ⟨_, _, rfl, .inl ⟨SqL.of (a.st.gh _ _ h1), (k.step a).tup a.st h2 hq⟩⟩
    | tup h1 h2 => cases hi; exact ⟨_, _, rfl, .inr ⟨(h1.grow a.st.gh).sq, (k.step a).data a.st (.tup h1 h2) hq⟩⟩
    | _ => cases hi
  | list =>
    refine .val (PE.imp (pe_callTy call_list_of gl (g.bl _ (by decide)) (by decide +kernel) pa (by decide) (by decide) sp rfl) fun σ H R h => use h fun F G ρ L x v M Q H1 R' s q hB k => ?_)
    obtain ⟨x', d, xs, e, hd, hi, hq⟩ := hB
    cases e
    obtain ⟨a, dq⟩ := s.frozen q hd
    cases dq with
    | lst h1 h2 => cases hi; exact ⟨_, _, rfl, .inl (SqL.of (a.st.gh _ _ h1)), fun p hp => (k.step a).lstD a.st hp h2 hq⟩
    | tup h1 h2 => cases hi; exact ⟨_, _, rfl, .inr ((h1.grow a.st.gh).sq), fun p hp => (k.step a).lstD a.st hp h2 hq⟩
    | _ => cases hi
  | sorted =>
    refine .val (PE.imp (pe_callB (cr_sortedD g.un) gl (g.bl _ (by decide)) (by decide +kernel) pa (by decide) (by decide) sp rfl) fun σ H R h => use h fun F G ρ L x v M Q H1 R' s q hB k => ?_)
    obtain ⟨x', d, xs, e, hd, hi, ok, hq⟩ := hB
    cases e
    obtain ⟨a, dq⟩ := s.frozen q hd
    exact ⟨_, v, xs, rfl, a.st.gh, ⟨d, dq, hi⟩, ok, fun ys p hp hy => (k.step a).lstD a.st hp hy hq⟩
  | max2 => exact absurd rfl hb.1
  | min2 => exact absurd rfl hb.2.1
  | suml => exact absurd rfl hb.2.2
  | _ => exact absurd rfl hs
theorem e_blt2 (g : Gd Γ N sc X) (b : Bn) (hb : b = .max2 ∨ b = .min2 ∨ b = .suml) {f : Str} (hf : f = b.nm) (hg : glB sc f = true) (ha : PE X l (lift X.K w1)) (hc : PE X r (lift X.K w2)) (pl : plainE l = true) (pr : plainE r = true) :
    PB X (.Call (.Name f px) [l, r] [] pos) (fun ρ Q => w1 ρ fun x ρ1 => w2 ρ1 fun y ρ2 => bltO b [x, y] fun z => Q z ρ2) := by
  subst hf
  have sp := starEach_plain (es := []) (env := X.env) pr
  have sp2 := starEach_plain (es := [r]) (env := X.env) pl
  have gl := g.glo hg
  have pa : PA X [l, r] (tCons (lift X.K w1) (tCons (lift X.K w2) tNil)) := pa_cons ha (pa_cons hc pa_nil sp) sp2
  have hpl : (backTo pos (starEach [r] X.env)).any (·.1) = false := by rw [sp]; rfl
  rcases hb with rfl | rfl | rfl
  · refine .val (PE.imp (pe_callB (call_max2 g.calm) gl (g.bl _ (by decide)) (by decide +kernel) pa (by decide) (by decide) sp2 hpl) fun σ H R h => two_of (r := fun v u H R => ∃ i j, [v, u] = [.int i, .int j] ∧ R (.int (if j > i then j else i)) H) h fun v u H2 ⟨F, G, ρ, L, x, y, M, N', Q, s, q, q2, ap, ⟨i, j, e, hq⟩, k⟩ => ?_)
    cases e
    exact ⟨i, j, by rw [q.r.dq.1.int_of, q2.r.dq.1.int_of], k.data s (.int _) hq⟩
  · refine .val (PE.imp (pe_callB (call_min2 g.calm) gl (g.bl _ (by decide)) (by decide +kernel) pa (by decide) (by decide) sp2 hpl) fun σ H R h => two_of (r := fun v u H R => ∃ i j, [v, u] = [.int i, .int j] ∧ R (.int (if j < i then j else i)) H) h fun v u H2 ⟨F, G, ρ, L, x, y, M, N', Q, s, q, q2, ap, ⟨i, j, e, hq⟩, k⟩ => ?_)
    cases e
    exact ⟨i, j, by rw [q.r.dq.1.int_of, q2.r.dq.1.int_of], k.data s (.int _) hq⟩
  · refine .val (PE.imp (pe_callB (cr_sumL g.calm) gl (g.bl _ (by decide)) (by decide +kernel) pa (by decide) (by decide) sp2 hpl) fun σ H R h => two_of (r := fun v u H R => ∃ v' u', [v, u] = [v', u'] ∧ ∃ G xs xss, Same G H ∧ Dq G v' (.list xs) ∧ Dq G u' (.list []) ∧ listsOf xs = some xss ∧ xss ≠ [] ∧ xss.flatten.length ≤ sizeLine ∧ ∀ ys p, H p = none → DqAll G ys xss.flatten → R (.ref p) (upd H p (.lst ys))) h fun v u H2 ⟨F, G, ρ, L, x, y, M, N', Q, s, q, q2, ap, ⟨x', y', xs, xss, e, hx, hy, h1, h2, h3, hq⟩, k⟩ => ?_)
    cases e
    obtain ⟨G', a, d1, d2⟩ := Two.frz s q q2 ap hx hy
    exact ⟨v, u, rfl, G', xs, xss, a.st.gh, d1, d2, h1, h2, h3, fun ys p hp hd => (k.step a).lstD a.st hp hd hq⟩
theorem ints_dq {G : Hp} : ∀ ns : List Int, DqAll G (ns.map V.int) (ns.map PyData.int)
  | [] => .nil
  | n :: ns => .cons (.int n) (ints_dq ns)
/-- sorted(set(x)) of ints -/
theorem e_sortset (g : Gd Γ N sc X) {f f2 : Str} {p2 p3 : Pos} (hf : f = "sorted") (hf2 : f2 = "set") (hg : glB sc f = true) (hg2 : glB sc f2 = true) (ha : PE X l (liftR X.K w)) (pl : plainE l = true) :
    PB X (.Call (.Name f px) [.Call (.Name f2 p2) [l] [] p3] [] pos) (fun ρ Q => w ρ fun x ρ1 => ∃ d xs ns, x.frz = some d ∧ PyData.itemsOf d = some xs ∧ intsOf xs = some ns ∧ ns.length < 64 ∧ ∀ ms, isSortSet ns ms → Q (.own (ms.map fun n => .d (.int n))) ρ1) := by
  subst hf
  subst hf2
  have sp := starEach_plain (es := []) (env := X.env) pl
  have pa : PA X [l] (tCons (liftR X.K w) tNil) := pa_cons ha pa_nil sp
  have pe1 := pe_callTy (p := p2) (pos := p3) (cr_setI g.calm) (g.glo hg2) (g.bl _ (by decide)) (by decide +kernel) pa (by decide) (by decide) sp rfl
  refine .val (PE.imp (pe_callB (cr_sortedSet g.calm) (g.glo hg) (g.bl _ (by decide)) (by decide +kernel) (pa_cons pe1 pa_nil) (by decide) (by decide) rfl rfl) fun σ H R ⟨F, G, ρ, L, Q, s, hw, k⟩ => ?_)
  refine ⟨F, G, ρ, L, _, s, hw, fun x v ρ1 G1 H1 L1 M a r ⟨d, xs, ns, hd, hi, hn, h64, hq⟩ => ?_⟩
  obtain ⟨p, vs, rfl, hs, hv⟩ := items_dq (K := X.K) (r.now a.st.gh hd) hi
  have e1 := ints_of hv hn
  subst e1
  refine ⟨p, ns, rfl, hs, by omega, fun q c hq0 hc => ?_⟩
  have b := a.st.made (o := SetO X.w q (fun j => decide (j ∈ ns)) c) hq0
  refine ⟨q, _, c, rfl, upd_same, by omega, fun ms p' hp hm hl hp' => ?_⟩
  have e2 : (ms.map PyData.int).map Tv.d = ms.map fun n => .d (.int n) := by rw [List.map_map]; rfl
  refine (Kont.step k (a.trans b)).lstD b.st hp' (ints_dq ms) ?_
  rw [e2]
  exact hq ms ⟨hp, fun n => by rw [hm n]; simp⟩
def tyB (t : Str) : Bool := decide (t ∈ (["int", "bool", "tuple", "list", "str"] : List Str))
def tyS : PyData → String
  | .none => "NoneType"
  | .bool _ => "bool"
  | .int _ => "int"
  | .str _ => "str"
  | .list _ => "list"
  | .tuple _ => "tuple"
  | .dict _ => "dict"
theorem ty_dq {K : PySem.W.Frag} {G H : Hp} {v : V} {d : PyData} (g : Same G H) (h : Dq G v d) : TyX K H v (.type (tyS d)) := by
  cases h with
  | non => exact .base .non
  | bl b => exact .base (.bl b)
  | int i => exact .base (.int i)
  | str x => exact .base (.str x)
  | lst e _ => exact .base (.lst (g _ _ e))
  | tup e _ =>
    obtain ⟨o, e, _⟩ := e
    exact .fTuple (g _ _ e)
  | dct e _ _ => exact .base (.dK (g _ _ e))
def dctB : List (Str × Int) → List (Option Expr) → List Expr → Bool
  | [], [], [] => true
  | [(k, n)], [some (.Constant (.str x) _ _)], [.Constant (.int m) _ _] => decide (x = k) && decide (m = n)
  | _, _, _ => false
theorem e_dct {l : List (Str × Int)} {ks : List (Option Expr)} {vs : List Expr} (h : dctB l ks vs = true) : PB X (.Dict ks vs pos) (fun ρ Q => Q (.d (.dict (l.map fun p => (.str p.1, .int p.2)))) ρ) := by
  unfold dctB at h
  split at h
  · refine .val (PE.imp pe_dnewK fun σ H R ⟨F, G, ρ, L, Q, s, hw, k⟩ p hp => ?_)
    have a := s.laid (o := .dK []) hp
    exact Kont.data (Kont.step k a) a.st (.dct (vs := []) (kvs := []) upd_same rfl .nil) hw
  · rename_i k n x _ _ m _ _
    simp only [Bool.and_eq_true, decide_eq_true_eq] at h
    obtain ⟨rfl, rfl⟩ := h
    refine .val (PE.imp (pe_disp (pps_cons pe_str pe_int pps_nil) rfl rfl (by simp) (by simp)) fun σ H R ⟨F, G, ρ, L, Q, s, hw, k⟩ p hp => ?_)
    refine ⟨upd_same, [(.inr x, .int m)], rfl, by simp, ?_⟩
    rw [upd_upd]
    have a := s.laid (o := .dK (mergeK [] [((.inr x : Key), V.int m)])) hp
    exact Kont.data (Kont.step k a) a.st (.dct (vs := [(.inr x, .int m)]) (kvs := [(.inr x, .int m)]) upd_same rfl (.cons (.int m) .nil)) hw
  · cases h
theorem e_isi (g : Gd Γ N sc X) {f t : Str} {p2 : Pos} (hf : f = "isinstance") (hg : glB sc f = true) (ht : tyB t = true) (hgt : glB sc t = true) (ha : PE X l (liftR X.K w)) (pl : plainE l = true) :
    PB X (.Call (.Name f px) [l, .Name t p2] [] pos) (fun ρ Q => w ρ fun x ρ1 => ∃ d : PyData, x = Tv.d d ∧ Q (.d (.bool (isiD d t))) ρ1) := by
  subst hf
  have ht : t ∈ (["int", "bool", "tuple", "list", "str"] : List Str) := of_decide_eq_true ht
  have go : ∀ T : String, t = Str.ofString T → (T = "int" ∨ T = "bool" ∨ T = "tuple" ∨ T = "list" ∨ T = "str") → bootBuiltins t = some (.type T) →
      PB X (.Call (.Name "isinstance" px) [l, .Name t p2] [] pos) (fun ρ Q => w ρ fun x ρ1 => ∃ d : PyData, x = Tv.d d ∧ Q (.d (.bool (isiD d t))) ρ1) := fun T hT hin hb => by
    have hm : X.mg t = none := g.bl _ (by
      simp only [List.mem_cons, List.not_mem_nil, or_false] at ht
      rcases ht with rfl | rfl | rfl | rfl | rfl <;> decide)
    have hn : t ≠ "__name__" := by
      simp only [List.mem_cons, List.not_mem_nil, or_false] at ht
      rcases ht with rfl | rfl | rfl | rfl | rfl <;> decide
    have hd : (t == ("__debug__" : Str)) = false := by
      simp only [List.mem_cons, List.not_mem_nil, or_false] at ht
      rcases ht with rfl | rfl | rfl | rfl | rfl <;> decide
    have pt : PE X (.Name t p2) (tC (.ty T)) := pe_bltn (hn := hn) (hd := hd) (g.glo hgt) hm hb rfl
    have sp2 := starEach_plain (e := .Name t p2) (es := []) (env := X.env) rfl
    have sp1 := starEach_plain (es := [.Name t p2]) (env := X.env) pl
    have pa : PA X [l, .Name t p2] (tCons (liftR X.K w) (tCons (tC (.ty T)) tNil)) := pa_cons ha (pa_cons pt pa_nil sp2) sp1
    have hpl : (backTo pos (starEach [.Name t p2] X.env)).any (·.1) = false := by rw [sp2]; rfl
    refine .val (PE.imp (pe_callB call_isi (g.glo hg) (g.bl _ (by decide)) (by decide +kernel) pa (by decide) (by decide) sp1 hpl) fun σ H R ⟨F, G, ρ, L, Q, s, hw, k⟩ => ?_)
    refine ⟨F, G, ρ, L, _, s, hw, fun x v ρ1 G1 H1 L1 M a q ⟨d, e, hq⟩ => ?_⟩
    subst e
    have dq := q.dq.1
    have hk : PySem.W.kitOne X.K (.type (tyS d)) (.type T) = some (isiD d t) := kit_ty (by
      subst hT
      cases d <;> rcases hin with rfl | rfl | rfl | rfl | rfl <;> (simp only [isiD, tyS]; decide +kernel))
    exact ⟨v, .ty T, _, _, _, rfl, .ty T, ty_dq a.st.gh dq, hk, (Kont.step k a).data a.st (.bl _) hq⟩
  simp only [List.mem_cons, List.not_mem_nil, or_false] at ht
  rcases ht with rfl | rfl | rfl | rfl | rfl
  · exact go "int" rfl (by simp) (by decide +kernel)
  · exact go "bool" rfl (by simp) (by decide +kernel)
  · exact go "tuple" rfl (by simp) (by decide +kernel)
  · exact go "list" rfl (by simp) (by decide +kernel)
  · exact go "str" rfl (by simp) (by decide +kernel)
end
end Tr
set_option Elab.async false
set_option linter.all false
set_option maxRecDepth 100000
set_option maxHeartbeats 2000000
namespace Tr
open PySem PySem.Spec PyProof.Rows L2
def SqB (b : Bool) (K : PySem.W.Frag) (H : Hp) (a : Addr) (xs : List V) : Prop := match b with
  | true => SqT K H a xs
  | false => SqL K H a xs
def IsItB (b : Bool) (h : Heap) (it a : Addr) (i : Nat) : Prop := match b with
  | true => h.IsTupleIter it a i
  | false => h.IsListIter it a i
def itObj (b : Bool) (a : Addr) : Obj := match b with
  | true => { cls := .type "tuple_iterator", data := .fields #[.ref a, .int 0 0] }
  | false => { cls := .type "list_iterator", data := .fields #[.ref a, .int 0 0] }
theorem IsItB.at {b : Bool} {h h' : Heap} {it a : Addr} {i : Nat} (q : IsItB b h it a i) (k : ∀ o, h.get? it = some o → h'.get? it = some o) : IsItB b h' it a i := by
  cases b with
  | true => exact Heap.IsTupleIter.at (h := h) q k
  | false => exact Heap.IsListIter.at (h := h) q k
theorem IsItB.obj {b : Bool} {h : Heap} {it a : Addr} {i : Nat} (q : IsItB b h it a i) : ∃ o, h.get? it = some o ∧ ∀ v, o.data ≠ .cell v := by
  cases b with
  | true =>
    obtain ⟨o, e, _, d⟩ := (show h.IsTupleIter it a i from q)
    exact ⟨o, e, fun v z => by rw [d] at z; cases z⟩
  | false =>
    obtain ⟨o, e, _, d⟩ := (show h.IsListIter it a i from q)
    exact ⟨o, e, fun v z => by rw [d] at z; cases z⟩
theorem isIt_new {b : Bool} {h : Heap} {it a : Addr} (e : h.get? it = some (itObj b a)) : IsItB b h it a 0 := by
  cases b with
  | true => exact ⟨_, e, rfl, rfl⟩
  | false => exact ⟨_, e, rfl, rfl⟩
section
variable {X : Cx} {pins : List (Addr × Obj)} {σ : L2.St} {H : Hp} {s : Shared} {b : Bool} {a it : Addr} {xs : List V}
/-- what an iterator at it over the items at a draws -/
theorem draws_of (hh : X.A.handled = none) (I : Inv X pins σ H s) (q : SqB b X.K H a xs) (hne : a ≠ it) : ∃ (its : List Value) (St : Nat → Heap → Prop), Vals xs its ∧
    Draws X.prog X.w X.A.in1 it [it, a] its.length (fun i v => its[i]? = some v) St ∧ (∀ i, IsItB b s.heap it a i → St i s.heap) ∧ ∀ i h, St i h → IsItB b h it a i := by
  cases b with
  | true =>
    obtain ⟨its, rv, p, _⟩ := I.tuple q
    have D := Draws.tuple (prog := X.prog) (w := X.w) (A := X.A.in1) hh it a hne its.toArray
    refine ⟨its, fun i h => h.IsTupleIter it a i ∧ h.IsTuple a its.toArray, rv, by simpa using D, fun i h => ⟨h, p⟩, fun i h st => st.1⟩
  | false =>
    obtain ⟨its, rv, p, _⟩ := I.list q
    have D := Draws.list (prog := X.prog) (w := X.w) (A := X.A.in1) hh it a hne its.toArray
    refine ⟨its, fun i h => h.IsListIter it a i ∧ h.IsList a its.toArray, rv, by simpa using D, fun i h => ⟨h, p.isList⟩, fun i h st => st.1⟩
theorem SqB.inj (I : Inv X pins σ H s) {ys : List V} (h1 : SqB b X.K H a ys) (h2 : SqB b X.K H a xs) : ys = xs := by
  cases b with
  | true => exact I.tuple_inj h1 h2
  | false => exact I.list_inj h1 h2
theorem begins_of (I : Inv X pins σ H s) (q : SqB b X.K H a xs) : ∃ Hb, Begins (.ref a) (itObj b a) Hb ∧ Hb s.heap ∧ a < s.heap.objs.size := by
  cases b with
  | true =>
    obtain ⟨its, rv, p, _⟩ := I.tuple q
    obtain ⟨o1, ho1, _⟩ := id p
    exact ⟨_, begins_tuple a its.toArray, p, Heap.lt_size ho1⟩
  | false =>
    obtain ⟨its, rv, p, _⟩ := I.list q
    exact ⟨_, begins_list a its.toArray, p.isList, p.lt⟩
end
def IteB (b : Bool) (K : PySem.W.Frag) (a : Addr) : L2.It :=
  ⟨fun i H => ∃ (xs : List V) (x : V), SqB b K H a xs ∧ xs[i]? = some x, fun i H v H' => ∃ T o x, v = .ref T ∧ H T = none ∧ o.dict = none ∧ H' = upd H T (.frz o (.tup [.int (i : Nat), x])) ∧ ∀ xs, SqB b K H a xs → xs[i]? = some x, fun i H => ∃ xs : List V, SqB b K H a xs ∧ xs.length = i⟩
theorem turn_enumB {P : Program} {w : World} {K : PySem.W.Frag} {elts : List Expr} {kk : Nat} {tpos : Pos} (b : Bool) (a e it : Addr) :
    Turn P w K (.Tuple elts kk tpos) (IteB b K a) [e, it] e (fun i h => (∃ old, IsEnum h e it ((i : Nat) : Int) old) ∧ IsItB b h it a i ∧ e ≠ it ∧ a ≠ it ∧ e ≠ a) where
  mem := by simp
  obj := fun i h st c hb => by
    obtain ⟨⟨old, he⟩, hit, _⟩ := st
    have e' : c = e ∨ c = it := by simpa using hb
    rcases e' with z | z
    · rw [z]; exact ⟨_, he, fun v q => nomatch q⟩
    · rw [z]; exact hit.obj
  keep := fun i h h' st k => let ⟨⟨old, he⟩, hi, hne⟩ := st; ⟨⟨old, k e (by simp) _ he⟩, hi.at fun o q => k it (by simp) o q, hne⟩
  item := by
    intro X hP hw hK hc i pins s σ H E I hf st hg
    subst hP hw hK
    obtain ⟨⟨old, he⟩, hit, hne, hai, hea⟩ := st
    obtain ⟨xs, x, hq, hx⟩ := hg
    obtain ⟨its, St, rv, D, d1, d2⟩ := draws_of (I.ok.hd hc) I hq hai
    obtain ⟨u, hu, ru⟩ := rv.get hx
    have hel : e < s.heap.objs.size := Heap.lt_size he
    have hil : it < s.heap.objs.size := by obtain ⟨_, q, _⟩ := hit.obj; exact Heap.lt_size q
    have hlt : i < its.length := (List.getElem?_eq_some_iff.mp hu).1
    refine wpAny_pyNext_enum_itemD D he (d1 i hit) hlt hne (by simp [hne, hea]) fun u' h' tk hu' ho hit' hT hsz hk => ?_
    rw [hu] at hu'
    cases hu'
    refine ⟨_, rfl, wpAny_letOwnedTupleGo_enum (s := { s with heap := h', toks := tk + 1 }) ho fun h'' he' sb => ?_⟩
    have hT2 : h''.get? s.heap.objs.size = some { cls := .type "tuple", data := .seq #[.int i tk, u] } := (sb.2 _ (Nat.ne_of_gt hel)).trans hT
    have new : ObjOk X.prog X.w (upd H s.heap.objs.size (.frz { cls := .type "tuple", data := .seq #[.int i tk, u] } (.tup [.int (i : Nat), x]))) h'' s.heap.objs.size (.frz { cls := .type "tuple", data := .seq #[.int i tk, u] } (.tup [.int (i : Nat), x])) :=
      ⟨hT2, by show 2 ≤ sizeLine; decide, [.int i tk, u], .cons ⟨_, rfl⟩ (.cons ru .nil), ⟨_, hT2, rfl, _, rfl⟩⟩
    have I1 : Inv X pins σ (upd H s.heap.objs.size (.frz { cls := .type "tuple", data := .seq #[.int i tk, u] } (.tup [.int (i : Nat), x]))) { s with heap := h'', toks := tk + 1 } :=
      I.turnedNew (ch := [e, it]) (fun c ob hb q => (sb.2 c (fun z => hb (by simp [z]))).trans (hk c ob (fun z => hb (by simp [z])) (fun z => hb (by simp [z])) q)) hf (Nat.le_refl _) new
    refine ⟨.ref s.heap.objs.size, _, I1, rfl, ⟨_, _, x, rfl, I.hok.fresh (Nat.le_refl _), rfl, rfl, fun ys hy => by rw [hy.inj I hq]; exact hx⟩, ⟨⟨u, ?_⟩, (d2 _ _ hit').at fun o q => (sb.2 it (Ne.symm hne)).trans q, hne, hai, hea⟩, fun c hb => ?_⟩
    · have e1 : ((i + 1 : Nat) : Int) = (i : Int) + 1 := by omega
      rw [e1]; exact he'
    · have hb' : c < s.heap.objs.size := by
        have e' : c = e ∨ c = it := by simpa using hb
        rcases e' with z | z
        · rw [z]; exact hel
        · rw [z]; exact hil
      rw [upd_ne (Nat.ne_of_lt hb')]
      exact (hf c hb).1
  done := by
    intro X hP hw hK hc i pins s σ H E I hf st hg
    subst hP hw hK
    obtain ⟨⟨old, he⟩, hit, hne, hai, hea⟩ := st
    obtain ⟨xs, hq, hx⟩ := hg
    obtain ⟨its, St, rv, D, d1, d2⟩ := draws_of (I.ok.hd hc) I hq hai
    obtain ⟨f0, f1, f2, f3, f4, f5⟩ := hf it (by simp)
    have hl := rv.length
    have hi : i = its.length := by omega
    subst hi
    exact wpAny_pyNext_enum_endD D he (d1 _ hit) fun h' eb => ⟨rfl, I.turned (t' := s.toks) (fun c o hb q => eb c o hb q) f0 f1 f3 f4 f5⟩
  self := fun A i s Q E st h => let ⟨⟨_, he⟩, _⟩ := st; wpAny_pyIter_enum he h
theorem meets_enum1 {v : Value} {o : Obj} {H : Heap → Prop} (B : Begins v o H) :
    Meets (Builtin.«enumerate.__new__» ⟨[.type "enumerate", v], []⟩) (fun _ R s => H s.heap ∧
      R (.ok (.ret (.ref (s.heap.push o).objs.size))) { s with heap := (s.heap.push o).push { cls := .type "enumerate", data := .fields #[.none, .bool false, .ref s.heap.objs.size, rawInt 0, .none, .none] } }) :=
  .of_wp fun prog w A R s h => by
    obtain ⟨hp, g, d, tk, os⟩ := s; obtain ⟨h1, h⟩ := h
    have hsub := sub_enumerate
    have q1 : ∀ {A' : Around} {E : Value → Shared → Prop} {Q : Value → Shared → Prop}, Q (.ref hp.objs.size) ⟨hp.push o, g, d, tk, os⟩ → wpAny (model prog w) A' (pyIter v) Q E ⟨hp, g, d, tk, os⟩ :=
      fun q => B.iter prog w _ _ ⟨hp, g, d, tk, os⟩ _ h1 q
    wp_walk using q1
    refine wpAny_stack_any fun st => wpAny_pure ?_
    split
    · rename_i c _ _ _ _ _
      cases (c == Value.type "enumerate")
      · wp_walk using q1
        exact ⟨_, rfl, h⟩
      · wp_walk using q1
        exact ⟨_, rfl, h⟩
    · wp_walk using q1
      exact ⟨_, rfl, h⟩
theorem enum_begins1 {prog : Program} {w : World} {A : Around} {E : Value → Shared → Prop} {s : Shared} {v : Value} {o : Obj} {H : Heap → Prop} {Q : Value → Shared → Prop} (B : Begins v o H) (h1 : H s.heap)
    (h : ∀ h', IsEnum h' (s.heap.objs.size + 1) s.heap.objs.size 0 .none → h'.get? s.heap.objs.size = some o → h'.objs.size = s.heap.objs.size + 2 →
      (∀ b o, s.heap.get? b = some o → h'.get? b = some o) → Q (.ref (s.heap.objs.size + 1)) { s with heap := h' }) :
    wpAny (model prog w) A (call (.type "enumerate") [v]) Q E s := by
  refine callType_new F.called_enumerate (by decide) (F.typeCall_enumerate_1 _) (F.newCall_enumerate_1 _) (fun obj => F.args_object_init_2 obj _) F.entry_enumerate_new
    (meets_enum1 B) ⟨h1, ?_⟩
  have hz : (s.heap.push o).objs.size = s.heap.objs.size + 1 := Heap.size_push ..
  show _ ∧ _
  rw [hz]
  have he : IsEnum ((s.heap.push o).push { cls := .type "enumerate", data := .fields #[.none, .bool false, .ref s.heap.objs.size, rawInt 0, .none, .none] }) (s.heap.objs.size + 1) s.heap.objs.size 0 .none := by
    have := Heap.get?_push_size (s.heap.push o) (o := { cls := .type "enumerate", data := .fields #[.none, .bool false, .ref s.heap.objs.size, rawInt 0, .none, .none] }) rfl
    rw [hz] at this; exact this
  refine ⟨⟨_, he, rfl⟩, h _ he (Heap.get?_push_of_some _ (Heap.get?_push_size _ B.free)) (by rw [Heap.size_push, hz]) fun b o x => Heap.get?_push_of_some _ (Heap.get?_push_of_some _ x)⟩
def iEnumB (K : PySem.W.Frag) (ta : TA) : TI := fun σ H R => ta σ H fun vs H1 => ∃ b a xs, vs = [.ref a] ∧ SqB b K H1 a xs ∧ R (IteB b K a) H1
theorem pi_enumB {X : Cx} {e : Expr} {ta : TA} {p pos tpos : Pos} {elts : List Expr} {kk : Nat} (hg : Gl X "enumerate") (hm : X.mg "enumerate" = none) (ha : PA X [e] ta) (hs : starEach [e] X.env = [(false, eval e X.env)] := by rfl) :
    PI X (.Tuple elts kk tpos) (.Call (.Name "enumerate" p) [e] [] pos) (iEnumB X.K ta) := by
  refine ⟨fun pins s σ H R I h => ?_⟩
  refine Call_ (ld_blt I hg hm boot_enumerate (PyProof.Rows.callWith_type1 (thn (ha.run pos pins s σ H _ I h) fun us s1 ⟨vs, H1, I1, r1, q1⟩ => ?_) hs rfl))
  obtain ⟨bb, a, xs, ex, hq, q⟩ := q1
  subst ex
  cases r1 with
  | cons r rr =>
    cases rr
    cases r
    obtain ⟨Hb, B, hB, hal⟩ := begins_of I1 hq
    refine enum_begins1 B hB fun h' he hit hsz hk => wpAny_pyIter_enum he ?_
    have I2 : Inv X pins σ H1 { s1 with heap := h' } := I1.kept (t' := s1.toks) hk
    refine ⟨s1.heap.objs.size + 1, [s1.heap.objs.size + 1, s1.heap.objs.size], _, _, H1, rfl, I2, turn_enumB bb a (s1.heap.objs.size + 1) s1.heap.objs.size, ⟨⟨.none, he⟩, isIt_new hit, Nat.succ_ne_self _, Nat.ne_of_lt hal, Nat.ne_of_gt (Nat.lt_succ_of_lt hal)⟩, fun b hb => ?_, q⟩
    have e' : b = s1.heap.objs.size + 1 ∨ b = s1.heap.objs.size := by simpa using hb
    have hle : s1.heap.objs.size ≤ b := by
      rcases e' with z | z
      · rw [z]; exact Nat.le_add_right _ _
      · rw [z]; exact Nat.le_refl _
    exact I1.fpOk hle (I1.hok.fresh hle)
def ItzB (b1 b2 : Bool) (K : PySem.W.Frag) (a b : Addr) : L2.It :=
  ⟨fun i H => ∃ (xs ys : List V) (x y : V), SqB b1 K H a xs ∧ SqB b2 K H b ys ∧ xs[i]? = some x ∧ ys[i]? = some y,
    fun i H v H' => ∃ T o x y, v = .ref T ∧ H T = none ∧ o.dict = none ∧ H' = upd H T (.frz o (.tup [x, y])) ∧ (∀ xs, SqB b1 K H a xs → xs[i]? = some x) ∧ ∀ ys, SqB b2 K H b ys → ys[i]? = some y,
    fun i H => ∃ xs ys : List V, SqB b1 K H a xs ∧ SqB b2 K H b ys ∧ i = min xs.length ys.length⟩
theorem turn_zipB {P : Program} {w : World} {K : PySem.W.Frag} {elts : List Expr} {kk : Nat} {tpos : Pos} (b1 b2 : Bool) {a b z TI TO i1 i2 : Addr} (S : ZipSep2 z TI TO i1 i2 [i1, a] [i2, b]) (ha : a ≠ i1) (hb : b ≠ i2) :
    Turn P w K (.Tuple elts kk tpos) (ItzB b1 b2 K a b) [z, TI, TO, i1, i2] z (fun i h => IsZip h z TI TO .none ∧ IsPair h TI (.ref i1) (.ref i2) ∧ (∃ x y, IsPair h TO x y) ∧ IsItB b1 h i1 a i ∧ IsItB b2 h i2 b i) where
  mem := by simp
  obj := fun i h st c hc => by
    obtain ⟨hz, hTI, ⟨x, y, hTO⟩, h1, h2⟩ := st
    have e' : c = z ∨ c = TI ∨ c = TO ∨ c = i1 ∨ c = i2 := by simpa using hc
    rcases e' with q | q | q | q | q
    · rw [q]; exact ⟨_, hz, fun v q => nomatch q⟩
    · rw [q]; exact ⟨_, hTI, fun v q => nomatch q⟩
    · rw [q]; exact ⟨_, hTO, fun v q => nomatch q⟩
    · rw [q]; exact h1.obj
    · rw [q]; exact h2.obj
  keep := fun i h h' st k => by
    obtain ⟨hz, hTI, ⟨x, y, hTO⟩, h1, h2⟩ := st
    exact ⟨k z (by simp) _ hz, k TI (by simp) _ hTI, ⟨x, y, k TO (by simp) _ hTO⟩, h1.at fun o q => k i1 (by simp) o q, h2.at fun o q => k i2 (by simp) o q⟩
  item := by
    intro X hP hw hK hc i pins s σ H E I hf st hg
    subst hP hw hK
    obtain ⟨hz, hTI, ⟨x0, y0, hTO⟩, h1, h2⟩ := st
    obtain ⟨xs, ys, x, y, hqx, hqy, hx, hy⟩ := hg
    obtain ⟨its, St1, rv, D1, d11, d12⟩ := draws_of (I.ok.hd hc) I hqx ha
    obtain ⟨its2, St2, rv2, D2, d21, d22⟩ := draws_of (I.ok.hd hc) I hqy hb
    obtain ⟨u, hu, ru⟩ := rv.get hx
    obtain ⟨u2, hu2, ru2⟩ := rv2.get hy
    have hlt1 : i < its.length := (List.getElem?_eq_some_iff.mp hu).1
    have hlt2 : i < its2.length := (List.getElem?_eq_some_iff.mp hu2).1
    have hzl : z < s.heap.objs.size := Heap.lt_size hz
    refine wpAny_pyNext_zipD2_item S D1 D2 hz hTI hTO (d11 i h1) (d21 i h2) hlt1 hlt2 fun u' u2' h' tk p1 p2 z' TO' h1' h2' hT hsz hk => ?_
    rw [hu] at p1
    rw [hu2] at p2
    cases p1
    cases p2
    refine ⟨_, rfl, wpAny_letOwnedTupleGo_zip (s := { s with heap := h', toks := tk }) z' fun h'' z'' sb => ?_⟩
    have hT2 : h''.get? s.heap.objs.size = some { cls := .type "tuple", data := .seq #[u, u2] } := (sb.2 _ (Nat.ne_of_gt hzl)).trans hT
    have new : ObjOk X.prog X.w (upd H s.heap.objs.size (.frz { cls := .type "tuple", data := .seq #[u, u2] } (.tup [x, y]))) h'' s.heap.objs.size (.frz { cls := .type "tuple", data := .seq #[u, u2] } (.tup [x, y])) :=
      ⟨hT2, by show 2 ≤ sizeLine; decide, [u, u2], .cons ru (.cons ru2 .nil), ⟨_, hT2, rfl, _, rfl⟩⟩
    have I1 : Inv X pins σ (upd H s.heap.objs.size (.frz { cls := .type "tuple", data := .seq #[u, u2] } (.tup [x, y]))) { s with heap := h'', toks := tk } :=
      I.turnedNew (t' := tk) (ch := [z, TI, TO, i1, i2]) (fun c o hb q => (sb.2 c (fun q' => hb (by simp [q']))).trans (hk c o (fun q' => hb (by simp [q'])) (fun q' => hb (by simp [q'])) (fun q' => hb (by simp [q'])) (fun q' => hb (by simp [q'])) q)) hf (Nat.le_refl _) new
    refine ⟨.ref s.heap.objs.size, _, I1, rfl, ⟨_, _, x, y, rfl, I.hok.fresh (Nat.le_refl _), rfl, rfl, fun l hl => by rw [hl.inj I hqx]; exact hx, fun l hl => by rw [hl.inj I hqy]; exact hy⟩, ⟨z'', ?_, ⟨u, u2, ?_⟩, ?_, ?_⟩, fun c hcm => ?_⟩
    · exact (sb.2 _ S.TIz).trans (hk _ _ S.TIz S.TITO S.TIi1 S.TIi2 hTI)
    · exact (sb.2 _ S.TOz).trans TO'
    · exact (d12 _ _ h1').at fun o q => (sb.2 _ S.zi1.symm).trans q
    · exact (d22 _ _ h2').at fun o q => (sb.2 _ S.zi2.symm).trans q
    · have hlt : c < s.heap.objs.size := by
        have e' : c = z ∨ c = TI ∨ c = TO ∨ c = i1 ∨ c = i2 := by simpa using hcm
        rcases e' with q | q | q | q | q
        · rw [q]; exact hzl
        · rw [q]; exact Heap.lt_size hTI
        · rw [q]; exact Heap.lt_size hTO
        · rw [q]; obtain ⟨_, e1, _⟩ := h1.obj; exact Heap.lt_size e1
        · rw [q]; obtain ⟨_, e2, _⟩ := h2.obj; exact Heap.lt_size e2
      rw [upd_ne (Nat.ne_of_lt hlt)]
      exact (hf c hcm).1
  done := by
    intro X hP hw hK hc i pins s σ H E I hf st hg
    subst hP hw hK
    obtain ⟨hz, hTI, ⟨x0, y0, hTO⟩, h1, h2⟩ := st
    obtain ⟨xs, ys, hqx, hqy, hend⟩ := hg
    obtain ⟨its, St1, rv, D1, d11, d12⟩ := draws_of (I.ok.hd hc) I hqx ha
    obtain ⟨its2, St2, rv2, D2, d21, d22⟩ := draws_of (I.ok.hd hc) I hqy hb
    have l1 := rv.length
    have l2 := rv2.length
    refine wpAny_pyNext_zipD2_end S D1 D2 hz hTI hTO (d11 i h1) (d21 i h2) (by omega) (by omega) (by omega) fun h' tk hk => ⟨rfl, I.turnedL (t' := tk) (ch := [z, TI, TO, i1, i2]) (fun c o hb q =>
      hk c o (fun q' => hb (by simp [q'])) (fun q' => hb (by simp [q'])) (fun q' => hb (by simp [q'])) (fun q' => hb (by simp [q'])) q) hf⟩
  self := fun A i s Q E st h => wpAny_pyIter_zip st.1 h
def iZipB (K : PySem.W.Frag) (ta : TA) : TI := fun σ H R => ta σ H fun vs H1 => ∃ b1 b2 a b xs ys, vs = [.ref a, .ref b] ∧ SqB b1 K H1 a xs ∧ SqB b2 K H1 b ys ∧ R (ItzB b1 b2 K a b) H1
theorem pi_zipB {X : Cx} {e e2 : Expr} {ta : TA} {p pos tpos : Pos} {elts : List Expr} {kk : Nat} (hg : Gl X "zip") (hm : X.mg "zip" = none) (ha : PA X [e, e2] ta)
    (hs : starEach [e, e2] X.env = (false, eval e X.env) :: starEach [e2] X.env := by rfl) (hpl : (backTo pos (starEach [e2] X.env)).any (·.1) = false := by rfl) :
    PI X (.Tuple elts kk tpos) (.Call (.Name "zip" p) [e, e2] [] pos) (iZipB X.K ta) := by
  refine ⟨fun pins s σ H R I h => ?_⟩
  refine Call_ (ld_blt I hg hm PyProof.Rows.boot_zip (PyProof.Rows.callWith_type1 (thn (ha.run pos pins s σ H _ I h) fun us s1 ⟨vs, H1, I1, r1, q1⟩ => ?_) hs hpl))
  obtain ⟨b1, b2, a, b, xs, ys, ex, hqx, hqy, q⟩ := q1
  subst ex
  cases r1 with
  | cons r rr =>
    cases rr with
    | cons r' rr =>
      cases rr
      cases r
      cases r'
      obtain ⟨Hb, B, hB, la⟩ := begins_of I1 hqx
      obtain ⟨Hb2, B2, hB2, lb⟩ := begins_of I1 hqy
      refine zip_begins2 B B2 hB hB2 fun h' hz hTI hTO h1 h2 hsz hk => wpAny_pyIter_zip hz ?_
      have I2 : Inv X pins σ H1 { s1 with heap := h' } := I1.kept (t' := s1.toks) hk
      refine ⟨s1.heap.objs.size + 4, [s1.heap.objs.size + 4, s1.heap.objs.size + 2, s1.heap.objs.size + 3, s1.heap.objs.size, s1.heap.objs.size + 1], _, _, H1, rfl, I2,
        turn_zipB b1 b2 (zip_sep2 (fp1 := [a]) (fp2 := [b]) (by simpa using la) (by simpa using lb)) (Nat.ne_of_lt la) (Nat.ne_of_lt (Nat.lt_succ_of_lt lb)), ⟨hz, hTI, ⟨_, _, hTO⟩, isIt_new h1, isIt_new h2⟩, fun c hcm => ?_, q⟩
      have e' : c = s1.heap.objs.size + 4 ∨ c = s1.heap.objs.size + 2 ∨ c = s1.heap.objs.size + 3 ∨ c = s1.heap.objs.size ∨ c = s1.heap.objs.size + 1 := by simpa using hcm
      have hle : s1.heap.objs.size ≤ c := by
        rcases e' with z | z | z | z | z
        · rw [z]; exact Nat.le_add_right _ _
        · rw [z]; exact Nat.le_add_right _ _
        · rw [z]; exact Nat.le_add_right _ _
        · rw [z]; exact Nat.le_refl _
        · rw [z]; exact Nat.le_add_right _ _
      exact I1.fpOk hle (I1.hok.fresh hle)
end Tr
set_option Elab.async false
set_option linter.all false
set_option maxRecDepth 100000
set_option maxHeartbeats 2000000
namespace Tr
open PySem PySem.Spec PyProof.Rows L2
section
variable {K : PySem.W.Frag} {F G G' H H' : Hp} {σ : L2.St} {ρ : Env'} {L M : List Addr}
theorem set_out {α : Type} {l : List α} {i : Nat} (h : ¬ i < l.length) (x : α) : l.set i x = l := List.set_eq_of_length_le (by omega)
/-- a place forgotten -/
theorem Sta.drop (s : Sta K F G H ρ σ L) (i : Nat) (o : Option V) : ∃ L', Sta K F G H (ρ.set i none) (σ.set i o) L' ∧ ∀ a ∈ L', a ∈ L := by
  by_cases h : i < ρ.length
  · obtain ⟨P, M, S, e, _, k⟩ := s.sr.fill h
    have nd := s.nd
    rw [e] at nd
    have sub : ∀ a ∈ P ++ S, a ∈ L := fun a ha => by rw [e]; rcases List.mem_append.mp ha with h | h <;> simp [h]
    exact ⟨P ++ S, ⟨k o, nd.sublist (by simp), fun a ha => s.fr a (sub a ha), s.fh, s.gh, s.tb, s.nt, s.ng⟩, sub⟩
  · have h2 : ¬ i < σ.length := by rw [← s.sr.length]; exact h
    rw [set_out h, set_out h2]
    exact ⟨L, s, fun _ h => h⟩
/-- data put in a place -/
theorem Sta.putD (s : Sta K F G H ρ σ L) {i : Nat} {d : PyData} {v : V} (h : i < ρ.length) (dq : Dq G v d) : ∃ L', Sta K F G H (ρ.set i (some (.d d))) (σ.set i (some v)) L' ∧ ∀ a ∈ L', a ∈ L := by
  obtain ⟨P, M, S, e, k, _⟩ := s.sr.fill h
  have nd := s.nd
  rw [e] at nd
  have sub : ∀ a ∈ P ++ [] ++ S, a ∈ L := fun a ha => by
    rw [List.append_nil] at ha
    rw [e]
    rcases List.mem_append.mp ha with h | h <;> simp [h]
  exact ⟨P ++ [] ++ S, ⟨k (.d dq), nd.sublist (by simp), fun a ha => s.fr a (sub a ha), s.fh, s.gh, s.tb, s.nt, s.ng⟩, sub⟩
/-- what is held besides, put in a place -/
theorem Sta.put (s : Sta K F G H ρ σ L) {i : Nat} {x : Tv} {v : V} (h : i < ρ.length) (q : Val K F G H L x v M) : ∃ L', Sta K F G H (ρ.set i (some x)) (σ.set i (some v)) L' ∧ ∀ a ∈ L', a ∈ L ∨ a ∈ M := by
  obtain ⟨P, M0, S, e, k, _⟩ := s.sr.fill h
  have nd := s.nd
  rw [e] at nd
  have sub : ∀ a ∈ P ++ S, a ∈ L := fun a ha => by rw [e]; rcases List.mem_append.mp ha with h | h <;> simp [h]
  have sub2 : ∀ a ∈ P ++ M ++ S, a ∈ L ∨ a ∈ M := fun a ha => by
    rcases List.mem_append.mp ha with h | h
    · rcases List.mem_append.mp h with h | h
      · exact .inl (sub a (by simp [h]))
      · exact .inr h
    · exact .inl (sub a (by simp [h]))
  refine ⟨P ++ M ++ S, ⟨k q.r, ?_, fun a ha => ?_, s.fh, s.gh, s.tb, s.nt, s.ng⟩, sub2⟩
  · have n0 : (P ++ S).Nodup := nd.sublist (by simp)
    rw [List.nodup_append] at n0
    rw [List.nodup_append]
    refine ⟨?_, n0.2.1, fun a ha b hb e => ?_⟩
    · rw [List.nodup_append]
      exact ⟨n0.1, q.nd, fun a ha b hb e => q.ap b hb (by rw [← e]; exact sub a (by simp [ha]))⟩
    · rcases List.mem_append.mp ha with h | h
      · exact n0.2.2 a h b hb e
      · exact q.ap a h (by rw [e]; exact sub b (by simp [hb]))
  · rcases sub2 a ha with h | h
    · exact s.fr a h
    · exact q.fr a h
theorem wipeR_length (ρ : Env') : ∀ vs : List Nat, (wipeR ρ vs).length = ρ.length
  | [] => rfl
  | v :: vs => by unfold wipeR; rw [List.length_set, wipeR_length ρ vs]
theorem Sta.wipe (s : Sta K F G H ρ σ L) : ∀ vs : List Nat, ∃ L', Sta K F G H (wipeR ρ vs) (L2.wipe σ vs) L' ∧ ∀ a ∈ L', a ∈ L
  | [] => ⟨L, s, fun _ h => h⟩
  | v :: vs => by
    obtain ⟨L1, s1, h1⟩ := Sta.wipe s vs
    obtain ⟨L2', s2, h2⟩ := s1.drop v none
    exact ⟨L2', s2, fun a ha => h1 a (h2 a ha)⟩
def back (σ τ : L2.St) : List Nat → L2.St
  | [] => τ
  | v :: vs => (back σ τ vs).set v (σ[v]?).join
theorem back_length (σ τ : L2.St) : ∀ vs : List Nat, (back σ τ vs).length = τ.length
  | [] => rfl
  | v :: vs => by unfold back; rw [List.length_set, back_length σ τ vs]
theorem back_at {σ τ : L2.St} (hl : τ.length = σ.length) (i : Nat) : ∀ vs : List Nat, (back σ τ vs)[i]? = if i ∈ vs then σ[i]? else τ[i]?
  | [] => by simp [back]
  | v :: vs => by
    unfold back
    by_cases h : v = i
    · subst h
      simp only [List.mem_cons, true_or, if_true]
      by_cases hv : v < σ.length
      · rw [List.getElem?_set_self (by rw [back_length, hl]; exact hv)]
        simp [hv]
      · rw [List.getElem?_eq_none (by rw [List.length_set, back_length, hl]; omega), List.getElem?_eq_none (by omega)]
    · rw [List.getElem?_set_ne h, back_at hl i vs]
      have : (i ∈ v :: vs) ↔ i ∈ vs := by simp [show ¬ i = v from fun e => h e.symm]
      simp only [this]
theorem back_wipe (σ : L2.St) (vs : List Nat) : back σ (L2.wipe σ vs) vs = σ := by
  apply List.ext_getElem?
  intro i
  rw [back_at (L2.wipe_length σ vs)]
  split
  · rfl
  · rename_i h
    exact L2.wipe_out h
/-- after a block: the data that stood in its names' places is back -/
theorem Sta.back {G1 H1 : Hp} {ρ1 : Env'} {L1 : List Addr} (s1 : Sta K F G1 H1 ρ1 σ L1) (g : Same G1 G) {τ : L2.St} (s : Sta K F G H ρ τ L) (hl : ρ.length = ρ1.length) :
    ∀ vs : List Nat, ∃ L', Sta K F G H (restR ρ1 ρ vs) (Tr.back σ τ vs) L' ∧ ∀ a ∈ L', a ∈ L
  | [] => ⟨L, s, fun _ h => h⟩
  | v :: vs => by
    obtain ⟨L', s', h'⟩ := Sta.back s1 g s hl vs
    show ∃ L', Sta K F G H ((restR ρ1 ρ vs).set v (keepD (ρ1[v]?).join)) ((Tr.back σ τ vs).set v (σ[v]?).join) L' ∧ _
    have fin : (∃ L'', Sta K F G H ((restR ρ1 ρ vs).set v none) ((Tr.back σ τ vs).set v (σ[v]?).join) L'' ∧ ∀ a ∈ L'', a ∈ L) := by
      obtain ⟨L'', s'', h''⟩ := s'.drop v (σ[v]?).join
      exact ⟨L'', s'', fun a ha => h' a (h'' a ha)⟩
    cases e : (ρ1[v]?).join with
    | none => exact fin
    | some x =>
      have e := join_some e
      have hv : v < (restR ρ1 ρ vs).length := by
        have h1 : (restR ρ1 ρ vs).length = (Tr.back σ τ vs).length := s'.sr.length
        have h2 : ρ.length = τ.length := s.sr.length
        rw [h1, back_length, ← h2, hl]
        exact (List.getElem?_eq_some_iff.mp e).1
      obtain ⟨w, P, M, S, e1, e2, r, _⟩ := s1.sr.at e
      have e3 : (σ[v]?).join = some w := by rw [e2]; rfl
      cases x with
      | d x =>
        rw [e3]
        obtain ⟨L'', s'', h''⟩ := s'.putD hv (r.dq.1.grow g)
        exact ⟨L'', s'', fun a ha => h' a (h'' a ha)⟩
      | scr ns =>
        rw [e3]
        cases r with
        | scr r =>
          obtain ⟨L'', s'', h''⟩ := s'.put (x := .scr ns) (M := []) hv ⟨.scr (g.seq r), List.nodup_nil, fun _ z => absurd z (by simp), fun _ z => absurd z (by simp)⟩
          exact ⟨L'', s'', fun a ha => h' a ((h'' a ha).elim id fun z => absurd z (by simp))⟩
      | own xs => exact fin
      | fn k c => exact fin
      | map m => exact fin
end
def locB (sc : Scope) (x : Str) : Bool := match sc.names.lookup x with | some .local => true | some .cell => true | _ => false
structure GdT (T : Str → Bool) (X : Cx) : Prop where
  loc : ∀ x, T x = true → Loc X.env.scope x
  fn : ∀ x, T x = true → X.fn x = true ∨ X.env.scope.names.lookup x = some .local
mutual
def okTg (N : List Str) (T : Str → Bool) : Tg → Expr → Bool
  | .name i, e => (match e with | .Name x _ => decide (N[i]? = some x) && T x | _ => false)
  | .tup ts, e => (match e with | .Tuple es _ _ => okTgs N T ts es | _ => false)
def okTgs (N : List Str) (T : Str → Bool) : TgL → List Expr → Bool
  | .nil, es => es.isEmpty
  | .cons t ts, es => (match es with | e :: es => okTg N T t e && okTgs N T ts es | [] => false)
end
def Agr (vs : List Nat) (σ σ' : L2.St) : Prop := σ'.length = σ.length ∧ ∀ i, i ∉ vs → σ'[i]? = σ[i]?
theorem Agr.trans {vs us : List Nat} {σ σ' σ'' : L2.St} (h : Agr vs σ σ') (h' : Agr us σ' σ'') : Agr (vs ++ us) σ σ'' :=
  ⟨h'.1.trans h.1, fun i hi => (h'.2 i fun z => hi (by simp [z])).trans (h.2 i fun z => hi (by simp [z]))⟩
theorem Agr.wipe {vs us : List Nat} {σ σ' : L2.St} (h : Agr vs σ σ') (s : ∀ i ∈ vs, i ∈ us) : L2.wipe σ' us = L2.wipe σ us := by
  have at' : ∀ (τ : L2.St) (i : Nat) (us : List Nat), (L2.wipe τ us)[i]? = if i ∈ us then (τ[i]?).map fun _ => none else τ[i]? := by
    intro τ i us
    induction us with
    | nil => simp [L2.wipe]
    | cons v us ih =>
      unfold L2.wipe
      by_cases hv : v = i
      · subst hv
        by_cases hl : v < τ.length
        · rw [List.getElem?_set_self (by rw [L2.wipe_length]; exact hl)]
          simp [hl]
        · rw [List.getElem?_eq_none (by rw [List.length_set, L2.wipe_length]; omega)]
          simp [List.getElem?_eq_none (show τ.length ≤ v by omega)]
      · rw [List.getElem?_set_ne hv, ih]
        have : (i ∈ v :: us) ↔ i ∈ us := by simp [show ¬ i = v from fun e => hv e.symm]
        simp only [this]
  apply List.ext_getElem?
  intro i
  rw [at', at']
  by_cases hi : i ∈ us
  · simp only [hi, if_true]
    by_cases hl : i < σ.length
    · rw [List.getElem?_eq_getElem hl, List.getElem?_eq_getElem (by rw [h.1]; exact hl)]
      rfl
    · rw [List.getElem?_eq_none (show σ'.length ≤ i by rw [h.1]; omega), List.getElem?_eq_none (show σ.length ≤ i by omega)]
  · simp only [hi, if_false]
    exact h.2 i fun z => hi (s i z)
def liftG (K : PySem.W.Frag) (vs : List Nat) (w : PyData → Env' → (Env' → Prop) → Prop) : TG := fun v σ H R => ∃ F G ρ L d Q, Sta K F G H ρ σ L ∧ Dq G v d ∧ w d ρ Q ∧ ∀ ρ' σ' L', Sta K F G H ρ' σ' L' → (∀ a ∈ L', a ∈ L) → Agr vs σ σ' → Q ρ' → R σ' H
def liftGs (K : PySem.W.Frag) (us : List Nat) (n : Nat) (w : List PyData → Env' → (Env' → Prop) → Prop) : TGs := fun vs σ H R => ∃ F G ρ L ds Q, Sta K F G H ρ σ L ∧ DqAll G vs ds ∧ w ds ρ Q ∧ ∀ ρ' σ' L', Sta K F G H ρ' σ' L' → (∀ a ∈ L', a ∈ L) → Agr us σ σ' → Q ρ' → R σ' H
theorem tgs_len : ∀ (ts : TgL) {xs : List PyData} {ρ : Env'} {Q : Env' → Prop} {N : List Str} {T : Str → Bool} {es : List Expr}, okTgs N T ts es = true → wTgs ts xs ρ Q → xs.length = es.length
  | .nil, xs, _, _, _, _, es, h, w => by
    have h : es.isEmpty = true := h
    rw [List.isEmpty_iff] at h
    rw [w.1, h]
    rfl
  | .cons t ts, xs, _, _, _, _, [], h, w => nomatch (show false = true from h)
  | .cons t ts, xs, ρ, Q, N, T, e :: es, h, w => by
    have h : (okTg N T t e && okTgs N T ts es) = true := h
    rw [Bool.and_eq_true] at h
    obtain ⟨y, ys, rfl, w⟩ := w
    have : ∀ (t : Tg) {y : PyData} {ρ : Env'} {Q : Env' → Prop}, wTg t y ρ Q → ∃ ρ', Q ρ' := fun t => wTg_ex t
    obtain ⟨ρ', w'⟩ := this t w
    simp [tgs_len ts h.2 w']
where
  wTg_ex : ∀ (t : Tg) {y : PyData} {ρ : Env'} {Q : Env' → Prop}, wTg t y ρ Q → ∃ ρ', Q ρ'
    | .name i, _, _, _, w => ⟨_, w.2⟩
    | .tup ts, _, _, _, w => by
      obtain ⟨xs, _, w⟩ := w
      exact wTgs_ex ts w
  wTgs_ex : ∀ (ts : TgL) {y : List PyData} {ρ : Env'} {Q : Env' → Prop}, wTgs ts y ρ Q → ∃ ρ', Q ρ'
    | .nil, _, _, _, w => ⟨_, w.2⟩
    | .cons t ts, _, _, _, w => by
      obtain ⟨y, ys, _, w⟩ := w
      obtain ⟨ρ', w'⟩ := wTg_ex t w
      exact wTgs_ex ts w'
section
variable {X : Cx} {T : Str → Bool} {N : List Str}
theorem assignEach_tg : ∀ (t : Tg) {e : Expr} {es : List Expr} {env : Env}, okTg N T t e = true → assignEach (e :: es) env = (false, assign e env) :: assignEach es env
  | .name i, e, es, env, h => by cases e <;> first | rfl | exact nomatch (show false = true from h)
  | .tup ts, e, es, env, h => by cases e <;> first | rfl | exact nomatch (show false = true from h)
theorem assignEach_tgs : ∀ (ts : TgL) {es : List Expr} {env : Env}, okTgs N T ts es = true → (assignEach es env).length = es.length ∧ (assignEach es env).findIdx? (·.1) = none
  | .nil, es, env, h => by
    have h : es.isEmpty = true := h
    rw [List.isEmpty_iff] at h
    subst h
    exact ⟨rfl, rfl⟩
  | .cons t ts, [], _, h => nomatch (show false = true from h)
  | .cons t ts, e :: es, env, h => by
    have h : (okTg N T t e && okTgs N T ts es) = true := h
    rw [Bool.and_eq_true] at h
    obtain ⟨h1, h2⟩ := assignEach_tgs ts (env := env) h.2
    rw [assignEach_tg t h.1]
    refine ⟨by simp [h1], ?_⟩
    rw [List.findIdx?_cons]
    simp [h2]
mutual
theorem g_tg (hc : X.calm = true) (hN : X.N = N) (nd : N.Nodup) (g : GdT T X) : ∀ (t : Tg) (e : Expr), okTg N T t e = true → PG X e (liftG X.K (tgVs t) (wTg t))
  | .name i, e, h => by
    cases e with
    | Name x pos =>
      have h : (decide (N[i]? = some x) && T x) = true := h
      simp only [Bool.and_eq_true, decide_eq_true_eq] at h
      have p : PG X (.Name x pos) (gName i) := pg_name (by rw [hN]; exact nd) (by rw [hN]; exact h.1) (g.loc x h.2) (g.fn x h.2)
      refine ⟨fun pins s σ H v u Q I r ⟨F, G, ρ, L, d, Q', st, dq, ⟨hi, hq⟩, k⟩ => p.run pins s σ H v u Q I r ?_⟩
      obtain ⟨L', s', h'⟩ := st.putD hi dq
      exact k _ _ L' s' h' ⟨by simp, fun j hj => List.getElem?_set_ne (fun z => hj (by simp [tgVs, z]))⟩ hq
    | _ => exact nomatch (show false = true from h)
  | .tup ts, e, h => by
    cases e with
    | Tuple es kk pos =>
      have h : okTgs N T ts es = true := h
      obtain ⟨a1, a2⟩ := assignEach_tgs ts (env := X.env) h
      have p : PG X (.Tuple es kk pos) (gTup X.K es.length (liftGs X.K (tgVss ts) es.length (wTgs ts))) := pg_tup hc (g_tgs hc hN nd g ts es h) a1 a2
      have pl : PG X (.Tuple es kk pos) (gUnl X.K es.length (liftGs X.K (tgVss ts) es.length (wTgs ts))) := pg_unl hc (g_tgs hc hN nd g ts es h) a1 a2
      refine ⟨fun pins s σ H v u Q I r ⟨F, G, ρ, L, d, Q', st, dq, ⟨xs, e, hw⟩, k⟩ => ?_⟩
      cases d with
      | tuple ys =>
        cases e
        refine p.run pins s σ H v u Q I r ?_
        obtain ⟨a, vs, rfl, hg, ha⟩ := dq.tup_of
        exact ⟨a, vs, rfl, (TupG.grow hg st.gh).sq, by rw [ha.length]; exact tgs_len ts h hw, F, G, ρ, L, xs, Q', st, ha, hw, k⟩
      | list ys =>
        cases e
        refine pl.run pins s σ H v u Q I r ?_
        obtain ⟨a, vs, rfl, hg, ha⟩ := dq.lst_of
        exact ⟨a, vs, rfl, SqL.of (st.gh _ _ hg), by rw [ha.length]; exact tgs_len ts h hw, F, G, ρ, L, xs, Q', st, ha, hw, k⟩
      | _ => cases e
    | _ => exact nomatch (show false = true from h)
theorem g_tgs (hc : X.calm = true) (hN : X.N = N) (nd : N.Nodup) (g : GdT T X) : ∀ (ts : TgL) (es : List Expr), okTgs N T ts es = true → PGs X es (liftGs X.K (tgVss ts) es.length (wTgs ts))
  | .nil, es, h => by
    have h : es.isEmpty = true := h
    rw [List.isEmpty_iff] at h
    subst h
    refine ⟨fun pins s σ H vs us Q I r ⟨F, G, ρ, L, ds, Q', st, dq, ⟨e, hq⟩, k⟩ => pgs_nil.run pins s σ H vs us Q I r ?_⟩
    subst e
    cases dq
    exact ⟨rfl, k ρ σ L st (fun _ h => h) ⟨rfl, fun _ _ => rfl⟩ hq⟩
  | .cons t ts, [], h => nomatch (show false = true from h)
  | .cons t ts, e :: es, h => by
    have h : (okTg N T t e && okTgs N T ts es) = true := h
    rw [Bool.and_eq_true] at h
    have p := pgs_cons (g_tg hc hN nd g t e h.1) (g_tgs hc hN nd g ts es h.2) (by rw [assignEach_tg t h.1]; rfl)
    refine ⟨fun pins s σ H vs us Q I r ⟨F, G, ρ, L, ds, Q', st, dq, ⟨y, ys, e, hw⟩, k⟩ => p.run pins s σ H vs us Q I r ?_⟩
    subst e
    cases dq with
    | cons d1 d2 =>
      exact ⟨_, _, rfl, F, G, ρ, L, y, _, st, d1, hw, fun ρ1 σ1 L1 s1 h1 g1 w1 => ⟨F, G, ρ1, L1, ys, Q', s1, d2, w1, fun ρ2 σ2 L2 s2 h2 g2 q2 => k ρ2 σ2 L2 s2 (fun a ha => h1 a (h2 a ha)) (g1.trans g2) q2⟩⟩
end
end
structure Wk (G : Hp) (J : L2.It) (items : List PyData) : Prop where
  goes : ∀ i H, i < items.length → Same G H → J.go i H
  stops : ∀ H, Same G H → J.stop items.length H
  yields : ∀ i H x H', i < items.length → Same G H → J.yld i H x H' → ∃ d, items[i]? = some d ∧ ((H' = H ∧ Dq G x d) ∨ ∃ T o vs ds, x = .ref T ∧ H T = none ∧ o.dict = none ∧ H' = upd H T (.frz o (.tup vs)) ∧ DqAll G vs ds ∧ d = .tuple ds)
theorem Wk.grow {G G' : Hp} {J : L2.It} {items : List PyData} (w : Wk G J items) (g : Same G G') : Wk G' J items :=
  ⟨fun i H hi s => w.goes i H hi (g.trans s), fun H s => w.stops H (g.trans s), fun i H x H' hi s y => by
    obtain ⟨d, e, h⟩ := w.yields i H x H' hi (g.trans s) y
    refine ⟨d, e, ?_⟩
    rcases h with ⟨h1, h2⟩ | ⟨T, o, vs, ds, h1, h2, hn, h3, h4, h5⟩
    · exact .inl ⟨h1, h2.grow g⟩
    · exact .inr ⟨T, o, vs, ds, h1, h2, hn, h3, h4.grow g, h5⟩⟩
/-- a turn's value comes -/
theorem Wk.come {K : PySem.W.Frag} {F G H H' : Hp} {σ : L2.St} {ρ : Env'} {L : List Addr} {J : L2.It} {items : List PyData} {i : Nat} {x : V} (w : Wk G J items) (s : Sta K F G H ρ σ L) (hi : i < items.length) (y : J.yld i H x H') :
    ∃ d G', items[i]? = some d ∧ Aft K F G G' H' ρ σ L ∧ Dq G' x d := by
  obtain ⟨d, e, h⟩ := w.yields i H x H' hi s.gh y
  rcases h with ⟨rfl, h2⟩ | ⟨T, o, vs, ds, rfl, h2, hn, rfl, h4, rfl⟩
  · exact ⟨d, G, e, Aft.refl s, h2⟩
  · have a := s.laid (o := .frz o (.tup vs)) h2
    exact ⟨_, _, e, a, .tup ⟨o, upd_same, hn⟩ (h4.grow a.gg)⟩
def liftI (K : PySem.W.Frag) (w : WI) : TI := fun σ H R => ∃ F G ρ L Q, Sta K F G H ρ σ L ∧ w ρ Q ∧ ∀ items ρ' G' H' L' J, Aft K F G G' H' ρ' σ L' → Wk G' J items → Q items ρ' → R J H'
theorem wk_list {K : PySem.W.Frag} {G : Hp} {a : Addr} {vs : List V} {ds : List PyData} (h : G a = some (.lst vs)) (d : DqAll G vs ds) : Wk G (Itl K a) ds where
  goes := fun i H hi g => ⟨vs, vs[i]'(by rw [d.length]; exact hi), SqL.of (g _ _ h), by simp⟩
  stops := fun H g => ⟨vs, SqL.of (g _ _ h), Nat.le_of_eq d.length⟩
  yields := fun i H x H' hi g y => by
    obtain ⟨rfl, y⟩ := y
    obtain ⟨u, h1, h2⟩ := d.get (i := i) (x := ds[i]) (by simp [hi])
    have h3 := y vs (SqL.of (g _ _ h))
    rw [h1] at h3
    cases h3
    exact ⟨ds[i], by simp [hi], .inl ⟨rfl, h2⟩⟩
theorem wk_tup {K : PySem.W.Frag} {G : Hp} {a : Addr} {vs : List V} {ds : List PyData} (h : TupG G a vs) (d : DqAll G vs ds) : Wk G (Itt K a) ds where
  goes := fun i H hi g => ⟨vs, vs[i]'(by rw [d.length]; exact hi), (h.grow g).sq, by simp⟩
  stops := fun H g => ⟨vs, (h.grow g).sq, Nat.le_of_eq d.length⟩
  yields := fun i H x H' hi g y => by
    obtain ⟨rfl, y⟩ := y
    obtain ⟨u, h1, h2⟩ := d.get (i := i) (x := ds[i]) (by simp [hi])
    have h3 := y vs ((h.grow g).sq)
    rw [h1] at h3
    cases h3
    exact ⟨ds[i], by simp [hi], .inl ⟨rfl, h2⟩⟩
theorem wk_range {G : Hp} {lo : Int} {n : Nat} : Wk G (Itr lo n) ((List.range n).map fun (k : Nat) => .int (lo + k)) where
  goes := fun i H hi g => by show i < n; simpa using hi
  stops := fun H g => by simp [Itr]
  yields := fun i H x H' hi g y => by
    obtain ⟨rfl, rfl⟩ := y
    exact ⟨.int (lo + i), by simp at hi; simp [hi], .inl ⟨rfl, .int _⟩⟩
def GB (b : Bool) (G : Hp) (a : Addr) (vs : List V) : Prop := match b with
  | true => TupG G a vs
  | false => G a = some (.lst vs)
theorem GB.grow {b : Bool} {G G' : Hp} {a : Addr} {vs : List V} (h : GB b G a vs) (g : Same G G') : GB b G' a vs := by
  cases b with
  | true => exact TupG.grow h g
  | false => exact g _ _ h
theorem SqB.of {b : Bool} {K : PySem.W.Frag} {H : Hp} {a : Addr} {vs : List V} (h : GB b H a vs) : SqB b K H a vs := by
  cases b with
  | true => exact TupG.sq h
  | false => exact SqL.of h
theorem wk_enum {K : PySem.W.Frag} {G : Hp} {b : Bool} {a : Addr} {vs : List V} {ds : List PyData} (h : GB b G a vs) (d : DqAll G vs ds) : Wk G (IteB b K a) (ds.mapIdx fun k x => .tuple [.int k, x]) where
  goes := fun i H hi g => ⟨vs, vs[i]'(by rw [d.length]; simpa using hi), SqB.of (h.grow g), by simp⟩
  stops := fun H g => ⟨vs, SqB.of (h.grow g), by simp [d.length]⟩
  yields := fun i H x H' hi g y => by
    obtain ⟨T, o, v, rfl, h1, hn, h2, y⟩ := y
    have hi : i < ds.length := by simpa using hi
    obtain ⟨u, e1, e2⟩ := d.get (i := i) (x := ds[i]) (by simp [hi])
    have h3 := y vs (SqB.of (h.grow g))
    rw [e1] at h3
    cases h3
    exact ⟨.tuple [.int i, ds[i]], by simp [hi], .inr ⟨T, o, _, _, rfl, h1, hn, h2, .cons (.int _) (.cons e2 .nil), rfl⟩⟩
theorem wk_zip {K : PySem.W.Frag} {G : Hp} {b1 b2 : Bool} {a b : Addr} {vs us : List V} {ds es : List PyData} (h : GB b1 G a vs) (d : DqAll G vs ds) (h' : GB b2 G b us) (d' : DqAll G us es) :
    Wk G (ItzB b1 b2 K a b) (List.zipWith (fun p q => .tuple [p, q]) ds es) where
  goes := fun i H hi g => by
    have hi : i < ds.length ∧ i < es.length := by simp at hi; omega
    exact ⟨vs, us, vs[i]'(by rw [d.length]; exact hi.1), us[i]'(by rw [d'.length]; exact hi.2), SqB.of (h.grow g), SqB.of (h'.grow g), by simp, by simp⟩
  stops := fun H g => ⟨vs, us, SqB.of (h.grow g), SqB.of (h'.grow g), by simp [d.length, d'.length]⟩
  yields := fun i H x H' hi g y => by
    obtain ⟨T, o, v, w, rfl, h1, hn, h2, y, y'⟩ := y
    have hi : i < ds.length ∧ i < es.length := by simp at hi; omega
    obtain ⟨u, e1, e2⟩ := d.get (i := i) (x := ds[i]) (by simp [hi])
    obtain ⟨u', e1', e2'⟩ := d'.get (i := i) (x := es[i]) (by simp [hi])
    have h3 := y vs (SqB.of (h.grow g))
    have h3' := y' us (SqB.of (h'.grow g))
    rw [e1] at h3
    rw [e1'] at h3'
    cases h3
    cases h3'
    refine ⟨.tuple [ds[i], es[i]], ?_, .inr ⟨T, o, _, _, rfl, h1, hn, h2, .cons e2 (.cons e2' .nil), rfl⟩⟩
    rw [List.getElem?_zipWith]
    simp [hi]
theorem items_gb {G : Hp} {v : V} {d : PyData} {xs : List PyData} (h : Dq G v d) (e : PyData.itemsOf d = some xs) : ∃ p vs b, v = .ref p ∧ GB b G p vs ∧ DqAll G vs xs := by
  cases h with
  | lst h1 h2 => cases e; exact ⟨_, _, false, rfl, h1, h2⟩
  | tup h1 h2 => cases e; exact ⟨_, _, true, rfl, h1, h2⟩
  | _ => cases e
theorem PI.imp {X : Cx} {tg e : Expr} {t t' : TI} (h : PI X tg e t) (k : ∀ σ H R, t' σ H R → t σ H R) : PI X tg e t' := ⟨fun pins s σ H R I q => h.run pins s σ H R I (k σ H R q)⟩
theorem PI.or {X : Cx} {tg e : Expr} {t t' : TI} (h : PI X tg e t) (h' : PI X tg e t') : PI X tg e (fun σ H R => t σ H R ∨ t' σ H R) := ⟨fun pins s σ H R I q => q.elim (h.run pins s σ H R I) (h'.run pins s σ H R I)⟩
section
variable {Γ : Gam} {N : List Str} {sc : Scope} {X : Cx} {l r tg : Expr} {pos px tpos : Pos} {w w1 w2 : WE}
/-- a list or a tuple, walked -/
def iSeq (K : PySem.W.Frag) (tl : TE) : TI := fun σ H R => tl σ H fun x H1 => ∃ a, x = .ref a ∧ (((∃ xs, SqL K H1 a xs) ∧ R (Itl K a) H1) ∨ ((∃ xs, SqT K H1 a xs) ∧ R (Itt K a) H1))
theorem pi_seq {tl : TE} (hl : PE X l tl) : PI X tg l (iSeq X.K tl) := by
  refine ⟨fun pins s σ H R I h => ?_⟩
  refine thn (hl.run pins s σ H _ I h) fun v s1 ⟨x, H1, I1, r1, q1⟩ => ?_
  obtain ⟨a, e, q1⟩ := q1
  subst e
  cases r1
  rcases q1 with ⟨⟨xs, hq⟩, q⟩ | ⟨⟨xs, hq⟩, q⟩
  · obtain ⟨its, rv, p, hz⟩ := I1.list hq
    refine wpAny_pyIter_list p.isList ?_
    refine ⟨s1.heap.objs.size, [s1.heap.objs.size], _, _, H1, rfl, I1.kept (t' := s1.toks) fun b o e => Heap.get?_push_of_some _ e, turn_list a _, ⟨_, Heap.get?_push_size _ rfl, rfl, rfl⟩, fun b hb => ?_, q⟩
    have e : b = s1.heap.objs.size := by simpa using hb
    subst e
    exact I1.fpOk (Nat.le_refl _) (I1.hok.fresh (Nat.le_refl _))
  · obtain ⟨its, rv, p, hz⟩ := I1.tuple hq
    refine wpAny_pyIter_tuple (show s1.heap.IsTuple a its.toArray from p) ?_
    refine ⟨s1.heap.objs.size, [s1.heap.objs.size], _, _, H1, rfl, I1.kept (t' := s1.toks) fun b o e => Heap.get?_push_of_some _ e, turn_tuple a _, ⟨_, Heap.get?_push_size _ rfl, rfl, rfl⟩, fun b hb => ?_, q⟩
    have e : b = s1.heap.objs.size := by simpa using hb
    subst e
    exact I1.fpOk (Nat.le_refl _) (I1.hok.fresh (Nat.le_refl _))
theorem i_seq (ha : PE X l (lift X.K w)) : PI X tg l (liftI X.K fun ρ Q => w ρ fun x ρ1 => ∃ d xs, x.frz = some d ∧ PyData.itemsOf d = some xs ∧ Q xs ρ1) := by
  refine PI.imp (pi_seq ha) fun σ H R ⟨F, G, ρ, L, Q, s, hw, k⟩ => ⟨F, G, ρ, L, _, s, hw, fun x v ρ1 G1 H1 L1 M a q ⟨d, xs, hd, hi, hq⟩ => ?_⟩
  obtain ⟨b, dq⟩ := a.st.frozen q hd
  obtain ⟨p, vs, bb, rfl, g1, d1⟩ := items_gb dq hi
  cases bb with
  | false => exact ⟨p, rfl, .inl ⟨⟨vs, SqL.of (b.st.gh _ _ g1)⟩, k xs _ _ _ _ _ (a.trans b) (wk_list g1 d1) hq⟩⟩
  | true => exact ⟨p, rfl, .inr ⟨⟨vs, (TupG.grow g1 b.st.gh).sq⟩, k xs _ _ _ _ _ (a.trans b) (wk_tup g1 d1) hq⟩⟩
theorem i_rng1 (g : Gd Γ N sc X) (hg : glB sc "range" = true) (ha : PE X l (lift X.K w)) (pl : plainE l = true) :
    PI X tg (.Call (.Name "range" px) [l] [] pos) (liftI X.K fun ρ Q => w ρ fun y ρ2 => ∃ j, y = .d (.int j) ∧ -(2 ^ 62) ≤ (0 : Int) ∧ (0 : Int) < 2 ^ 62 ∧ -(2 ^ 62) ≤ j ∧ j < 2 ^ 62 ∧ Q ((List.range (j - 0).toNat).map fun (k : Nat) => .int (0 + k)) ρ2) := by
  refine PI.imp (pi_range1 (g.glo hg) (g.bl _ (by decide)) (pa_cons ha pa_nil (starEach_plain pl)) (starEach_plain pl)) fun σ H R ⟨F, G, ρ, L, Q, s, hw, k⟩ => ⟨F, G, ρ, L, _, s, hw, fun x v ρ1 G1 H1 L1 M a q ⟨j, e, _, _, h1, h2, hq⟩ => ?_⟩
  subst e
  refine ⟨j, by rw [q.r.dq.1.int_of], h1, h2, ?_⟩
  rw [Int.sub_zero] at hq
  exact k _ _ _ _ _ _ a wk_range hq
theorem i_rng2 (g : Gd Γ N sc X) (hg : glB sc "range" = true) (ha : PE X l (lift X.K w1)) (hb : PE X r (lift X.K w2)) (pl : plainE l = true) (pr : plainE r = true) :
    PI X tg (.Call (.Name "range" px) [l, r] [] pos) (liftI X.K fun ρ Q => (w1 ρ fun x ρ1 => ∃ i, x = .d (.int i) ∧ w2 ρ1 fun y ρ2 => ∃ j, y = .d (.int j) ∧ -(2 ^ 62) ≤ i ∧ i < 2 ^ 62 ∧ -(2 ^ 62) ≤ j ∧ j < 2 ^ 62 ∧ Q ((List.range (j - i).toNat).map fun (k : Nat) => .int (i + k)) ρ2)) := by
  refine PI.imp (pi_range2 (g.glo hg) (g.bl _ (by decide)) (pa_cons ha (pa_cons hb pa_nil (starEach_plain pr)) (starEach_plain pl)) (by rw [starEach_plain pl, starEach_plain pr]; rfl) (by rw [starEach_plain pr]; rfl)) fun σ H R ⟨F, G, ρ, L, Q, s, hw, k⟩ =>
    ⟨F, G, ρ, L, _, s, hw, fun x v ρ1 G1 H1 L1 M a q ⟨i, e, hw2⟩ => ⟨F, G1, ρ1, L1, _, a.st, hw2, fun y u ρ2 G2 H2 L2 M2 b q2 ⟨j, e2, h0, h1, h2, h3, hq⟩ => ?_⟩⟩
  subst e
  subst e2
  exact ⟨i, j, by rw [q.r.dq.1.int_of, q2.r.dq.1.int_of], ⟨h0, h1, h2, h3⟩, k _ _ _ _ _ _ (a.trans b) wk_range hq⟩
theorem i_enum (g : Gd Γ N sc X) {elts : List Expr} {kk : Nat} (hg : glB sc "enumerate" = true) (ha : PE X l (lift X.K w)) (pl : plainE l = true) :
    PI X (.Tuple elts kk tpos) (.Call (.Name "enumerate" px) [l] [] pos) (liftI X.K fun ρ Q => w ρ fun x ρ1 => ∃ d xs, x.frz = some d ∧ PyData.itemsOf d = some xs ∧ Q (xs.mapIdx fun k x => .tuple [.int k, x]) ρ1) := by
  refine PI.imp (pi_enumB (g.glo hg) (g.bl _ (by decide)) (pa_cons ha pa_nil (starEach_plain pl)) (starEach_plain pl)) fun σ H R ⟨F, G, ρ, L, Q, s, hw, k⟩ => ⟨F, G, ρ, L, _, s, hw, fun x v ρ1 G1 H1 L1 M a q ⟨d, xs, hd, hi, hq⟩ => ?_⟩
  obtain ⟨b, dq⟩ := a.st.frozen q hd
  obtain ⟨p, vs, bb, rfl, g1, d1⟩ := items_gb dq hi
  exact ⟨bb, p, vs, rfl, SqB.of (g1.grow b.st.gh), k _ _ _ _ _ _ (a.trans b) (wk_enum g1 d1) hq⟩
theorem i_zip (g : Gd Γ N sc X) {elts : List Expr} {kk : Nat} (hg : glB sc "zip" = true) (ha : PE X l (lift X.K w1)) (hb : PE X r (lift X.K w2)) (pl : plainE l = true) (pr : plainE r = true) :
    PI X (.Tuple elts kk tpos) (.Call (.Name "zip" px) [l, r] [] pos) (liftI X.K fun ρ Q => w1 ρ fun x ρ1 => w2 ρ1 fun y ρ2 => ∃ d e xs ys, x.frz = some d ∧ y.frz = some e ∧ PyData.itemsOf d = some xs ∧ PyData.itemsOf e = some ys ∧
      Q (List.zipWith (fun p q => .tuple [p, q]) xs ys) ρ2) := by
  refine PI.imp (pi_zipB (g.glo hg) (g.bl _ (by decide)) (pa_cons ha (pa_cons hb pa_nil (starEach_plain pr)) (starEach_plain pl)) (starEach_plain pl) (by rw [starEach_plain pr]; rfl)) fun σ H R ⟨F, G, ρ, L, Q, s, hw, k⟩ =>
    ⟨F, G, ρ, L, _, s, hw, fun x v ρ1 G1 H1 L1 M a q hw2 => ⟨Tr.hold F H1 M, G1, ρ1, L1, _, a.st.hold q, hw2, fun y u ρ2 G2 H2 L2 M2 b q2 ⟨d, e, xs, ys, hd, he, hx, hy, hq⟩ => ?_⟩⟩
  obtain ⟨b1, q1⟩ := Aft.held q b
  obtain ⟨q2', ap⟩ := held_apart q q2
  obtain ⟨G3, c, dq, eq⟩ := Two.frz b1.st q1 q2' ap hd he
  obtain ⟨p, vs, bb, rfl, g1, d1⟩ := items_gb dq hx
  obtain ⟨p', vs', bb', rfl, g1', d1'⟩ := items_gb eq hy
  exact ⟨bb, bb', p, p', vs, vs', rfl, SqB.of (g1.grow c.st.gh), SqB.of (g1'.grow c.st.gh), k _ _ _ _ _ _ ((a.trans b1).trans c) (wk_zip g1 d1 g1' d1') hq⟩
end
end Tr
set_option Elab.async false
set_option linter.all false
set_option maxRecDepth 100000
set_option maxHeartbeats 2000000
namespace Tr
open PySem PySem.Spec PyProof.Rows L2
section
variable {Γ : Gam} {N : List Str} {sc : Scope} {X : Cx}
theorem Gd.blk (g : Gd Γ N sc X) (scope : Scope) (s : Shared) (H : Hp) (C : Addr) (cl : List (Str × Addr)) (fp : List Addr) : Gd Γ N (relS scope sc) (X.blk s H scope (compEnvC scope cl C X.env) fp) where
  calm := g.calm
  nm := g.nm
  nd := g.nd
  sc := by rw [← g.sc]; rfl
  gd := g.gd
  un := g.un
  bl := g.bl
  gl := g.gl
theorem GdT.blk (scope : Scope) (s : Shared) (H : Hp) (C : Addr) (cl : List (Str × Addr)) (fp : List Addr) : GdT (locB scope) (X.blk s H scope (compEnvC scope cl C X.env) fp) where
  loc := fun x h => by
    unfold locB at h
    split at h
    · rename_i e; exact .inl (lookup_relS_keep (sc := X.env.scope) (by decide) e)
    · rename_i e; exact .inr (lookup_relS_keep (sc := X.env.scope) (by decide) e)
    · cases h
  fn := fun x h => by
    unfold locB at h
    split at h
    · rename_i e; exact .inr (lookup_relS_keep (sc := X.env.scope) (by decide) e)
    · rename_i e; exact .inl (by show (scope.names.lookup x == some .cell) = true; rw [e]; rfl)
    · cases h
end
section
variable {K : PySem.W.Frag} {F G H : Hp} {σ : L2.St} {ρ : Env'} {L M M2 : List Addr}
/-- a write into a list that is held -/
theorem Sta.written (s : Sta K F G H ρ σ L) {a : Addr} {o : HO} {vs : List V} (ha : H a = some (.lst vs)) (hG : G a = none) (hF : F a = none) (hL : a ∉ L) : Aft K F G G (upd H a o) ρ σ L := by
  refine ⟨⟨s.sr.step (Same.refl _) (fun b hb => upd_ne (fun z => hL (z ▸ hb))) fun b hb => (s.sr.there b hb).2, s.nd, s.fr, fun b x e => ?_, fun b x e => ?_, tabs_write s.tb ha, s.nt, s.ng⟩, Same.refl _, fun _ _ h => h⟩
  · rw [upd_ne (fun z => by rw [z, hF] at e; cases e)]; exact s.fh b x e
  · rw [upd_ne (fun z => by rw [z, hG] at e; cases e)]; exact s.gh b x e
theorem ORs.append : ∀ {xs : List Tv} {vs : List V} {L : List Addr} {y : Tv} {u : V} {M : List Addr}, ORs K G H xs vs L → OR K G H y u M → ORs K G H (xs ++ [y]) (vs ++ [u]) (L ++ M)
  | _, _, _, _, _, _, .nil, h => by simpa using ORs.cons h .nil
  | _, _, _, _, _, _, .cons h t, h' => by
    have := ORs.cons h (ORs.append t h')
    simpa [List.append_assoc] using this
theorem Val.own_inv {acc : List Tv} {v : V} (q : Val K F G H L (.own acc) v M) : ∃ D vs M', v = .ref D ∧ M = D :: M' ∧ H D = some (.lst vs) ∧ G D = none ∧ ORs K G H acc vs M' := by
  obtain ⟨r, nd, fr, ap⟩ := q
  cases r with
  | own h1 h2 h3 => exact ⟨_, _, _, rfl, rfl, h1, h2, h3⟩
/-- one more at the end of a list that is held -/
theorem Val.push {acc : List Tv} {D : Addr} {y : Tv} {u : V} (s : Sta K F G H ρ σ L) (q : Val K F G H L (.own acc) (.ref D) M) (q2 : Val K F G H L y u M2) (ap : ∀ a ∈ M2, a ∉ M) :
    ∃ vs, H D = some (.lst vs) ∧ vs.length = acc.length ∧ Aft K F G G (upd H D (.lst (vs ++ [u]))) ρ σ L ∧ Val K F G (upd H D (.lst (vs ++ [u]))) L (.own (acc ++ [y])) (.ref D) (M ++ M2) := by
  obtain ⟨D', vs, M', e, rfl, hD, hG, r⟩ := q.own_inv
  cases e
  have nd := List.nodup_cons.mp q.nd
  have hM' : ∀ a ∈ M', a ≠ D := fun a ha z => nd.1 (z ▸ ha)
  have hM2 : ∀ a ∈ M2, a ≠ D := fun a ha z => ap a ha (by rw [z]; exact List.mem_cons_self)
  refine ⟨vs, hD, r.length.symm, s.written hD hG (q.fr D List.mem_cons_self) (q.ap D List.mem_cons_self), ?_, ?_, fun a ha => ?_, fun a ha => ?_⟩
  · exact .own upd_same hG ((r.append q2.r).step (Same.refl _) (fun a ha => upd_ne (by rcases List.mem_append.mp ha with h | h; exact hM' a h; exact hM2 a h)) fun a ha => by
      rcases List.mem_append.mp ha with h | h
      · exact (r.there a h).2
      · exact (q2.r.there a h).2)
  · rw [List.nodup_append]
    exact ⟨q.nd, q2.nd, fun a ha b hb e => ap b hb (e ▸ ha)⟩
  · rcases List.mem_append.mp ha with h | h
    · exact q.fr a h
    · exact q2.fr a h
  · rcases List.mem_append.mp ha with h | h
    · exact q.ap a h
    · exact q2.ap a h
end
/-- a condition that may be absent -/
def liftC (K : PySem.W.Frag) (w : Env' → (Bool → Env' → Prop) → Prop) : TT := fun σ H R => ∃ F G ρ L Q, Sta K F G H ρ σ L ∧ w ρ Q ∧ ∀ b ρ' G' H' L', Aft K F G G' H' ρ' σ L' → Q b ρ' → R b H'
section
variable {Γ : Gam} {N : List Str} {sc : Scope} {X : Cx} {pos : Pos}
theorem PTs.imp {ifs : List Expr} {t t' : TT} (h : PTs X ifs t) (k : ∀ σ H Q, t' σ H Q → t σ H Q) : PTs X ifs t' := ⟨fun pins s σ H Q I q => h.run pins s σ H Q I (k σ H Q q)⟩
theorem c_none : PTs X [] (liftC X.K fun ρ Q => Q true ρ) := PTs.imp pts_nil fun σ H R ⟨F, G, ρ, L, Q, s, hw, k⟩ => k _ _ _ _ _ (Aft.refl s) hw
theorem liftT_C {w : WE} {σ : L2.St} {H : Hp} {R : Bool → Hp → Prop} (h : liftC X.K (fun ρ Q => w ρ fun x ρ1 => ∃ k, x = .d (.bool k) ∧ Q k ρ1) σ H R) : liftT X.K w σ H R := by
  obtain ⟨F, G, ρ, L, Q, s, hw, k⟩ := h
  refine ⟨F, G, ρ, L, _, s, hw, fun x v ρ' G' H' L' M a q ⟨b, e, hq⟩ => ?_⟩
  subst e
  exact ⟨b, q.r.dq.1.bl_of, k b _ _ _ _ a hq⟩
theorem c_some {c : Expr} {w : WE} (h : PT X c (liftT X.K w)) : PTs X [c] (liftC X.K fun ρ Q => w ρ fun x ρ1 => ∃ k, x = .d (.bool k) ∧ Q k ρ1) := PTs.imp (pts_one h) fun _ _ _ q => liftT_C q
theorem wipe_wipe (σ : L2.St) (vs : List Nat) : L2.wipe (L2.wipe σ vs) vs = L2.wipe σ vs := by
  have h : Agr vs σ (L2.wipe σ vs) := ⟨L2.wipe_length _ _, fun i hi => L2.wipe_out hi⟩
  exact h.wipe fun _ h => h
/-- what a comprehension's turns keep -/
def lcP (K : PySem.W.Frag) (F G1 : Hp) (τ : L2.St) (D : Addr) (I : Nat → List Tv → Env' → Prop) (n : Nat) (i : Nat) (H : Hp) : Prop :=
  ∃ ρ G L M acc, Aft K F G1 G H ρ τ L ∧ Val K F G H L (.own acc) (.ref D) M ∧ I i acc ρ ∧ ρ.length = n
/-- a comprehension over trees -/
def wLc (t : Tg) (wi : WI) (wc : Env' → (Bool → Env' → Prop) → Prop) (we : WE) (vs : List Nat) : WE := fun ρ Q => wi ρ fun items ρ1 => ∃ I : Nat → List Tv → Env' → Prop, I 0 [] (wipeR ρ1 vs) ∧
      (∀ k x acc ρ2, items[k]? = some x → I k acc ρ2 → wTg t x ρ2 fun ρ3 => wc ρ3 fun b ρ4 =>
        (b = true → we ρ4 fun y ρ5 => acc.length < sizeLine ∧ I (k + 1) (acc ++ [y]) (wipeR ρ5 vs)) ∧ (b = false → I (k + 1) acc (wipeR ρ4 vs))) ∧
      ∀ acc ρ2, I items.length acc ρ2 → Q (.own acc) (restR ρ1 ρ2 vs)
theorem lc_main {own : List (Str × Nat)} {t : Tg} {wi : WI} {wc : Env' → (Bool → Env' → Prop) → Prop} {we : WE} {K : PySem.W.Frag} (hv : ∀ i ∈ tgVs t, i ∈ own.map (·.2)) :
    ∀ σ H R, lift K (wLc t wi wc we (own.map (·.2))) σ H R → tLc (liftI K wi) (liftG K (tgVs t) (wTg t)) (liftC K wc) (lift K we) (own.map (·.2)) σ H R := by
  rintro σ H R ⟨F, G, ρ, L, Q, s, hw, kt⟩
  refine ⟨F, G, ρ, L, _, s, hw, fun items ρ1 G1 H1 L1 J a wk ⟨I, h0, hs, hd⟩ D hD => ?_⟩
  obtain ⟨L1', w1, sub1⟩ := a.st.wipe (own.map (·.2))
  have hl1 : ρ1.length = σ.length := a.st.sr.length
  -- the invariant by the turn
  refine ⟨fun i m H => m = items.length - i ∧ i ≤ items.length ∧ lcP K F G1 (L2.wipe σ (own.map (·.2))) D I ρ1.length i H, ⟨items.length, by simp, Nat.zero_le _, ?_⟩, ?_⟩
  · have a0 := w1.made (o := .lst []) hD
    refine ⟨_, G1, L1', [D], [], a0, ⟨.own upd_same (a.st.gh.free hD) .nil, by simp, fun b hb => ?_, fun b hb => ?_⟩, h0, wipeR_length _ _⟩
    · have e : b = D := by simpa using hb
      rw [e]
      exact a.st.fh.free hD
    · have e : b = D := by simpa using hb
      rw [e]
      intro hl
      obtain ⟨⟨x, hx⟩, _⟩ := w1.sr.there D hl
      rw [hD] at hx
      cases hx
  rintro i m H2 ⟨rfl, hi, ρ2, G2, Lb, M, acc, b, q, hI, hlen⟩
  by_cases hlt : i < items.length
  · refine .inr ⟨wk.goes i H2 hlt (b.gg.trans b.st.gh), fun H' => lcP K F G1 (L2.wipe σ (own.map (·.2))) D I ρ1.length (i + 1) H', fun H' p' => ⟨items.length - (i + 1), by omega, rfl, hlt, p'⟩, fun x H3 y => ?_⟩
    obtain ⟨d, G3, ed, c, dq⟩ := Wk.come (wk.grow b.gg) (b.st.hold q) hlt y
    have hw3 := hs i d acc ρ2 ed hI
    refine ⟨Tr.hold F H2 M, G3, ρ2, Lb, d, _, c.st, dq, hw3, fun ρ3 σ3 L3 s3 h3 ag hc3 => ⟨ag.wipe hv |>.trans (wipe_wipe _ _), Tr.hold F H2 M, G3, ρ3, L3, _, s3, hc3, fun bb ρ4 G4 H4 L4 e4 hq4 => ?_⟩⟩
    cases bb with
    | true =>
      have hq5 := hq4.1 rfl
      refine ⟨Tr.hold F H2 M, G4, ρ4, L4, _, e4.st, hq5, fun z u ρ5 G5 H5 L5 M5 e5 q5 ⟨hz, hI5⟩ => ?_⟩
      obtain ⟨c1, qc⟩ := Aft.held q (⟨e5.st, (c.gg.trans e4.gg).trans e5.gg, fun b' h1 h2 => e5.gf b' h1 (e4.gf b' h1 (c.gf b' h1 h2))⟩ : Aft K (Tr.hold F H2 M) G2 G5 H5 ρ5 σ3 L5)
      obtain ⟨q5', ap5⟩ := held_apart q q5
      obtain ⟨vs, hD5, hvl, c2, qn⟩ := Val.push c1.st qc q5' ap5
      refine ⟨vs, hD5, by rw [hvl]; exact hz, ?_⟩
      obtain ⟨L6, s6, sub6⟩ := c2.st.wipe (own.map (·.2))
      have ew : L2.wipe σ3 (own.map (·.2)) = L2.wipe σ (own.map (·.2)) := (ag.wipe hv).trans (wipe_wipe _ _)
      rw [ew] at s6
      refine ⟨_, G5, L6, M ++ M5, acc ++ [z], ⟨s6, b.gg.trans (c1.gg.trans c2.gg), fun b' h1 h2 => c2.gf b' h1 (c1.gf b' h1 (b.gf b' h1 h2))⟩, ⟨qn.r, qn.nd, qn.fr, fun a' ha' hl' => qn.ap a' ha' (sub6 a' hl')⟩, hI5, ?_⟩
      have h5 : ρ5.length = σ3.length := c2.st.sr.length
      rw [wipeR_length, h5, ag.1, L2.wipe_length, hl1]
    | false =>
      have hI4 := hq4.2 rfl
      obtain ⟨c1, qc⟩ := Aft.held q (⟨e4.st, c.gg.trans e4.gg, fun b' h1 h2 => e4.gf b' h1 (c.gf b' h1 h2)⟩ : Aft K (Tr.hold F H2 M) G2 G4 H4 ρ4 σ3 L4)
      obtain ⟨L6, s6, sub6⟩ := c1.st.wipe (own.map (·.2))
      have ew : L2.wipe σ3 (own.map (·.2)) = L2.wipe σ (own.map (·.2)) := (ag.wipe hv).trans (wipe_wipe _ _)
      rw [ew] at s6
      refine ⟨_, G4, L6, M, acc, ⟨s6, b.gg.trans c1.gg, fun b' h1 h2 => c1.gf b' h1 (b.gf b' h1 h2)⟩, ⟨qc.r, qc.nd, qc.fr, fun a' ha' hl' => qc.ap a' ha' (sub6 a' hl')⟩, hI4, ?_⟩
      have h5 : ρ4.length = σ3.length := c1.st.sr.length
      rw [wipeR_length, h5, ag.1, L2.wipe_length, hl1]
  · have e : i = items.length := by omega
    subst e
    refine .inl ⟨wk.stops H2 (b.gg.trans b.st.gh), ?_⟩
    obtain ⟨L6, s6, sub6⟩ := Sta.back a.st b.gg b.st hlen (own.map (·.2))
    rw [back_wipe] at s6
    refine kt (.own acc) (.ref D) _ G2 H2 L6 M ⟨s6, a.gg.trans b.gg, fun b' h1 h2 => b.gf b' h1 (a.gf b' h1 h2)⟩ ⟨q.r, q.nd, q.fr, fun a' ha' hl' => q.ap a' ha' (sub6 a' hl')⟩ (hd acc ρ2 hI)
theorem e_lc (g : Gd Γ N sc X) {elt tg iter : Expr} {ifs : List Expr} {scope : Scope} {own : List (Str × Nat)} {t : Tg} {wi : WI} {wc : Env' → (Bool → Env' → Prop) → Prop} {we : WE}
    (hv : ∀ i ∈ tgVs t, i ∈ own.map (·.2))
    (hi : PI X tg iter (liftI X.K wi)) (ok : blkC N sc scope own = true) (ht : okTg N (locB scope) t tg = true)
    (hc : ∀ (s : Shared) (H : Hp) (C : Addr) (cl : List (Str × Addr)) (fp : List Addr), PTs (X.blk s H scope (compEnvC scope cl C X.env) fp) ifs (liftC X.K wc))
    (he : ∀ (s : Shared) (H : Hp) (C : Addr) (cl : List (Str × Addr)) (fp : List Addr), PE (X.blk s H scope (compEnvC scope cl C X.env) fp) elt (lift X.K we)) (pl : plainE iter = true) :
    PE X (.ListComp elt [⟨tg, iter, ifs, 0⟩] scope pos) (lift X.K (wLc t wi wc we (own.map (·.2)))) := by
  have bk : BlkOk X.N X.env.scope scope own := by rw [g.nm, g.sc]; exact blkOk_by ok
  exact PE.imp (pe_lc (g := liftG X.K (tgVs t) (wTg t)) (tt := liftC X.K wc) (te := lift X.K we) g.calm (by rw [g.nm]; exact g.nd) hi bk (fun s H C cl fp => g_tg (X := X.blk s H scope (compEnvC scope cl C X.env) fp) g.calm g.nm g.nd (GdT.blk scope s H C cl fp) t tg ht) hc he (folded_plain pl)) (lc_main hv)
theorem s_lc (g : Gd Γ N sc X) {elt tg iter : Expr} {ifs : List Expr} {scope : Scope} {own : List (Str × Nat)} {t : Tg} {wi : WI} {wc : Env' → (Bool → Env' → Prop) → Prop} {we : WE} {i : Nat} {y : Str} {py spos : Pos}
    (hy : N[i]? = some y) (hyl : sc.names.lookup y = some .local) (hsw : swapsWith (.ListComp elt [⟨tg, iter, ifs, 0⟩] scope pos) (some (.Name y py)) spos.line X.env = pure true)
    (hv : ∀ i ∈ tgVs t, i ∈ own.map (·.2))
    (hi : PI X tg iter (liftI X.K wi)) (ok : blkC N sc scope own = true) (ht : okTg N (locB scope) t tg = true)
    (hc : ∀ (s : Shared) (H : Hp) (C : Addr) (cl : List (Str × Addr)) (fp : List Addr), PTs (X.blk s H scope (compEnvC scope cl C X.env) fp) ifs (liftC X.K wc))
    (he : ∀ (s : Shared) (H : Hp) (C : Addr) (cl : List (Str × Addr)) (fp : List Addr), PE (X.blk s H scope (compEnvC scope cl C X.env) fp) elt (lift X.K we)) (pl : plainE iter = true) :
    PS X (.Assign [.Name y py] (.ListComp elt [⟨tg, iter, ifs, 0⟩] scope pos) spos) (tAsg (lift X.K (wLc t wi wc we (own.map (·.2)))) (gName i)) := by
  have bk : BlkOk X.N X.env.scope scope own := by rw [g.nm, g.sc]; exact blkOk_by ok
  exact PS.imp (ps_setLc (g := liftG X.K (tgVs t) (wTg t)) (tt := liftC X.K wc) (te := lift X.K we) g.calm (by rw [g.nm]; exact g.nd) (by rw [g.nm]; exact hy) (by rw [g.sc]; exact hyl) hsw hi bk (fun s H C cl fp => g_tg (X := X.blk s H scope (compEnvC scope cl C X.env) fp) g.calm g.nm g.nd (GdT.blk scope s H C cl fp) t tg ht) hc he (folded_plain pl)) fun D σ H q => lc_main hv σ H _ q
end
end Tr
set_option Elab.async false
set_option linter.all false
set_option maxRecDepth 100000
set_option maxHeartbeats 2000000
namespace Tr
open PySem PySem.Spec PyProof.Rows L2
section
variable {Γ : Gam} {N : List Str} {sc : Scope} {X : Cx} {l r : Expr} {pos px pf pr : Pos} {w w1 w2 : WE}
theorem dq_rg {G : Hp} (lo : Int) : ∀ n : List Nat, DqAll G (n.map fun (k : Nat) => V.int (lo + k)) (n.map fun (k : Nat) => PyData.int (lo + k))
  | [] => .nil
  | k :: n => .cons (.int _) (dq_rg lo n)
theorem own_rg (lo : Int) (n : Nat) : ((List.range n).map fun (k : Nat) => Tv.d (.int (lo + k))) = ((List.range n).map fun (k : Nat) => PyData.int (lo + k)).map Tv.d := by rw [List.map_map]; rfl
theorem e_lrng1 (g : Gd Γ N sc X) (t : Bool) (hf : glB sc (if t then ("tuple" : Str) else ("list" : Str)) = true) (hg : glB sc "range" = true) (ha : PE X l (lift X.K w)) (pl : plainE l = true) :
    PB X (.Call (.Name (if t then ("tuple" : Str) else ("list" : Str)) pf) [.Call (.Name "range" px) [l] [] pr] [] pos) (fun ρ Q => w ρ fun y ρ2 => ∃ j, y = .d (.int j) ∧ -(2 ^ 62) ≤ (0 : Int) ∧ (0 : Int) < 2 ^ 62 ∧ -(2 ^ 62) ≤ j ∧ j < 2 ^ 62 ∧ (j - 0).toNat ≤ 2 ^ 24 ∧
      Q (if t then .d (.tuple ((List.range (j - 0).toNat).map fun (k : Nat) => .int (0 + k))) else .own ((List.range (j - 0).toNat).map fun (k : Nat) => .d (.int (0 + k)))) ρ2) := by
  have rg := prg_1 (X := X) (p := px) (pos := pr) (g.glo hg) (g.bl _ (by decide)) ha (starEach_plain pl)
  cases t with
  | true =>
    refine .val (PE.imp (pf_rng g.calm (g.glo hf) (g.bl _ (by decide)) rg (starEach_plain rfl)) fun σ H R ⟨F, G, ρ, L, Q, s, hw, k⟩ => ⟨F, G, ρ, L, _, s, hw, fun x v ρ1 G1 H1 L1 M a q ⟨j, e, h1, h2, h3, h4, h5, hq⟩ => ?_⟩)
    subst e
    exact ⟨j, q.r.dq.1.int_of, ⟨h1, h2, h3, h4, h5⟩, Kont.tup (Kont.step k a) a.st (dq_rg 0 _) hq⟩
  | false =>
    refine .val (PE.imp (pe_listRg g.calm (g.glo hf) (g.bl _ (by decide)) rg (starEach_plain rfl)) fun σ H R ⟨F, G, ρ, L, Q, s, hw, k⟩ => ⟨F, G, ρ, L, _, s, hw, fun x v ρ1 G1 H1 L1 M a q ⟨j, e, h1, h2, h3, h4, h5, hq⟩ => ?_⟩)
    subst e
    refine ⟨j, q.r.dq.1.int_of, ⟨h1, h2, h3, h4, h5⟩, fun p hp => Kont.lstD (Kont.step k a) a.st hp (dq_rg 0 _) ?_⟩
    rw [← own_rg]
    exact hq
theorem e_lrng2 (g : Gd Γ N sc X) (t : Bool) (hf : glB sc (if t then ("tuple" : Str) else ("list" : Str)) = true) (hg : glB sc "range" = true) (ha : PE X l (lift X.K w1)) (hb : PE X r (lift X.K w2)) (pl : plainE l = true) (plr : plainE r = true) :
    PB X (.Call (.Name (if t then ("tuple" : Str) else ("list" : Str)) pf) [.Call (.Name "range" px) [l, r] [] pr] [] pos) (fun ρ Q => w1 ρ fun x ρ1 => ∃ i, x = .d (.int i) ∧ w2 ρ1 fun y ρ2 => ∃ j, y = .d (.int j) ∧ -(2 ^ 62) ≤ i ∧ i < 2 ^ 62 ∧ -(2 ^ 62) ≤ j ∧ j < 2 ^ 62 ∧ (j - i).toNat ≤ 2 ^ 24 ∧
      Q (if t then .d (.tuple ((List.range (j - i).toNat).map fun (k : Nat) => .int (i + k))) else .own ((List.range (j - i).toNat).map fun (k : Nat) => .d (.int (i + k)))) ρ2) := by
  have rg := prg_2 (X := X) (p := px) (pos := pr) (g.glo hg) (g.bl _ (by decide)) ha hb (starEach_plain pl) (starEach_plain plr) (by rw [starEach_plain plr]; rfl)
  cases t with
  | true =>
    refine .val (PE.imp (pf_rng g.calm (g.glo hf) (g.bl _ (by decide)) rg (starEach_plain rfl)) fun σ H R ⟨F, G, ρ, L, Q, s, hw, k⟩ => ⟨F, G, ρ, L, _, s, hw, fun x v ρ1 G1 H1 L1 M a q ⟨i, e, hw2⟩ => ⟨F, G1, ρ1, L1, _, a.st, hw2, fun y u ρ2 G2 H2 L2 M2 b q2 ⟨j, e2, h1, h2, h3, h4, h5, hq⟩ => ?_⟩⟩)
    subst e
    subst e2
    exact ⟨i, j, q.r.dq.1.int_of, q2.r.dq.1.int_of, ⟨h1, h2, h3, h4, h5⟩, Kont.tup (Kont.step k (a.trans b)) b.st (dq_rg i _) hq⟩
  | false =>
    refine .val (PE.imp (pe_listRg g.calm (g.glo hf) (g.bl _ (by decide)) rg (starEach_plain rfl)) fun σ H R ⟨F, G, ρ, L, Q, s, hw, k⟩ => ⟨F, G, ρ, L, _, s, hw, fun x v ρ1 G1 H1 L1 M a q ⟨i, e, hw2⟩ => ⟨F, G1, ρ1, L1, _, a.st, hw2, fun y u ρ2 G2 H2 L2 M2 b q2 ⟨j, e2, h1, h2, h3, h4, h5, hq⟩ => ?_⟩⟩)
    subst e
    subst e2
    refine ⟨i, j, q.r.dq.1.int_of, q2.r.dq.1.int_of, ⟨h1, h2, h3, h4, h5⟩, fun p hp => Kont.lstD (Kont.step k (a.trans b)) b.st hp (dq_rg i _) ?_⟩
    rw [← own_rg]
    exact hq
end
structure GnOk (P : Program) (w : World) (K : PySem.W.Frag) (mg : Str → Option Value) (base : Heap) (k : Nat) (f : Addr) (fd : FuncData) (ps : List Str) (sp : List V → Hp → VK → Prop) : Prop where
  len : ∀ vs H Q, sp vs H Q → vs.length = ps.length
  run : ∀ (A : Around) (outer : List Env) (s : Shared) (H : Hp) (args : Args) (us : List Value) (vs : List V) (Q : VK), Room k A → A.guards = some [] → Env0 P w K mg base A outer s H →
    BindsTo s fd args (ps.zip us) → Vals vs us → sp vs H Q → codeAny (model P w) A (.call (.ref f) args) (CR CX0 outer P w H s Q fun _ _ _ => False) s
theorem GnOk.mono {P : Program} {w : World} {K : PySem.W.Frag} {mg : Str → Option Value} {base : Heap} {j k : Nat} {f : Addr} {fd : FuncData} {ps : List Str} {sp : List V → Hp → VK → Prop} (F : GnOk P w K mg base j f fd ps sp) (h : j ≤ k) : GnOk P w K mg base k f fd ps sp :=
  ⟨F.len, fun A outer s H args us vs Q hr => F.run A outer s H args us vs Q (hr.mono h)⟩
/-- how keywords bind -/
def BK (fd : FuncData) (ps ks : List Str) : Prop := ∀ (s : Shared) (ws as : List Value), ks.length = ws.length → kperm ks ws ps = some as → BindsTo s fd ⟨[], ks.zip ws⟩ (ps.zip as)
section
variable {X : Cx} {k : Nat} {f : Addr} {fd : FuncData} {ps ks : List Str} {sp : List V → Hp → VK → Prop} {x : Str} {p pos : Pos} {e : Expr} {es : List Expr} {t : TA} {kws : List Keyword}
theorem gn_end {outer : List Env} {P : Program} {w : World} {H : Hp} {s s' : Shared} {Q : VK} {r : Result} (h : CR CX0 outer P w H s Q (fun _ _ _ => False) r s') : ∃ u, r = .ok (.ret u) ∧ CE outer P w H s Q u s' := by
  cases r with
  | error e => exact False.elim h
  | ok fl =>
    cases fl with
    | ret u => exact ⟨u, rfl, h⟩
    | next => exact False.elim h
    | brk => exact False.elim h
    | cont => exact False.elim h
theorem pe_gn (F : GnOk X.prog X.w X.K X.mg X.base k f fd ps sp) (hr : Room k X.A) (hgd : X.A.guards = some []) (hg : Gl X x) (hm : X.mg x = some (.ref f)) (hk : PySem.W.keepIn X.K (.ref f) = true) (hb : Binds X.K fd ps [])
    (ha : PA X (e :: es) t) (hdb : (x == ("__debug__" : Str)) = false) (he : starEach (e :: es) X.env = (false, eval e X.env) :: starEach es X.env) (hpl : (backTo pos (starEach es X.env)).any (·.1) = false) :
    PE X (.Call (.Name x p) (e :: es) [] pos) (fun σ H Q => t σ H fun vs H1 => sp vs H1 Q) := by
  refine ⟨fun pins s σ H Q I h => wpAny_Call_Name_kw (ld_glob I hg hm ?_ hdb)⟩
  refine PySem.W.callWith_K (h₀ := X.base) I.ok.mod.kin hk (thn (ha.run pos pins s σ H _ I h) fun us s1 ⟨vs, H1, I1, r, q⟩ => ⟨I1.kIn, ?_⟩) he hpl
  have hl : us.length = ps.length := by rw [← r.length]; exact F.len _ _ _ q
  refine wpAny_call (codeAny_mono (F.run X.A X.stack s1 H1 ⟨us, []⟩ us vs Q hr hgd I1.env0 (by have := hb s1 us I1.kIn (by simpa using hl); rwa [List.append_nil] at this) r q) fun rr s' hq => ?_)
  obtain ⟨u, rfl, c⟩ := gn_end hq
  exact I1.after c
theorem pe_gnK (F : GnOk X.prog X.w X.K X.mg X.base k f fd ps sp) (hr : Room k X.A) (hgd : X.A.guards = some []) (hg : Gl X x) (hm : X.mg x = some (.ref f)) (hk : PySem.W.keepIn X.K (.ref f) = true) (hb : BK fd ps ks)
    (hkw : PK X kws t) (hall : (backToKw pos (keywordEach kws X.env)).all (·.1.isSome) = true) (hks : (backToKw pos (keywordEach kws X.env)).filterMap (·.1) = ks)
    (hdb : (x == ("__debug__" : Str)) = false) (hpl : ((backTo pos (starEach [] X.env)).any (·.1) || (backToKw pos (keywordEach kws X.env)).any (·.1.isNone)) = false) :
    PE X (.Call (.Name x p) [] kws pos) (fun σ H Q => t σ H fun vs H1 => ks.length = vs.length ∧ ∃ vas, kperm ks vs ps = some vas ∧ (∀ us : List Value, Vals vs us → ∃ uas, kperm ks us ps = some uas ∧ Vals vas uas) ∧ sp vas H1 Q) := by
  refine ⟨fun pins s σ H Q I h => wpAny_Call_Name_kw (ld_glob I hg hm ?_ hdb)⟩
  refine PySem.W.callWith_KW0 (h₀ := X.base) I.ok.mod.kin hk hall ?_ hpl
  refine thn (hkw.run pos pins s σ H _ I h) fun us s1 ⟨vs, H1, I1, r, hlen, vas, h1, h2, q⟩ => ⟨I1.kIn, ?_⟩
  rw [hks]
  obtain ⟨uas, h3, r3⟩ := h2 us r
  refine wpAny_call (codeAny_mono (F.run X.A X.stack s1 H1 ⟨[], ks.zip us⟩ uas vas Q hr hgd I1.env0 (hb s1 us uas (by rw [hlen]; exact r.length) h3) r3 q) fun rr s' hq => ?_)
  obtain ⟨u, rfl, c⟩ := gn_end hq
  exact I1.after c
end
def liftF (K : PySem.W.Frag) (ow : Option Nat) (fs : FS) : List V → Hp → VK → Prop := fun vs H R => ∃ F G xs L Q, Sta K F G H (xs.map some) (vs.map some) L ∧ fs xs Q ∧
  ∀ z v ns σ' G' H' L' M, Aft K F G G' H' ns σ' L' → Val K F G' H' L' z v M → (∀ i, ow = some i → σ'[i]? = vs[i]?.map some) → Q z ns → R v H'
/-- a function handed in keeps its promise: it is a lambda that gets data and gives data, and changes nothing -/
def LamHas (P : Program) (w : World) (K : PySem.W.Frag) (mg : Str → Option Value) (base : Heap) (k : Nat) (fe : FE) : Prop :=
  ∀ (lk : LamK) (caps : List (Str × PyData)) (ds : List PyData) (Q : Tv → List (Option Tv) → Prop), fe.fs (.fn lk caps :: ds.map .d) Q → ∀ (A : Around) (outer : List Env) (s : Shared) (H G : Hp) (v : V) (vs : List V) (us : List Value) (R : VK), Room k A → A.guards = some [] → Env0 P w K mg base A outer s H →
    LamX.Tabs (tabsOf K) H → Same G H → FnC G lk caps v → DqAll G vs ds → Vals vs us → (∀ a ps, G a ≠ some (.tbl ps)) →
    (∀ z d rest H' G', Q (.d d) rest → Same G G' → Same G' H' → Dq G' z d → LamX.ExtN H H' → LamX.Tabs (tabsOf K) H' → (∀ a, H a ≠ none → G a = none → G' a = none) → (∀ a ps, G' a ≠ some (.tbl ps)) → R z H') →
    ∃ f, v = .ref f ∧ codeAny (model P w) A (.call (.ref f) ⟨us, []⟩) (CR CX0 outer P w H s R fun _ _ _ => False) s
theorem LamHas.mono {P : Program} {w : World} {K : PySem.W.Frag} {mg : Str → Option Value} {base : Heap} {j k : Nat} {fe : FE} (h : LamHas P w K mg base j fe) (l : j ≤ k) : LamHas P w K mg base k fe :=
  fun lk caps ds Q q A outer s H G v vs us R hr => h lk caps ds Q q A outer s H G v vs us R (hr.mono l)
section
variable {K : PySem.W.Frag} {F G H : Hp} {σ : L2.St} {ρ : Env'} {L M : List Addr}
theorem argT_frz {x y : Tv} (h : argT x = some y) : (∃ ns, x = .scr ns ∧ y = .scr ns) ∨ (∃ k c, x = .fn k c ∧ y = .fn k c) ∨ ∃ d, x.frz = some d ∧ y = .d d := by
  cases x with
  | scr ns => exact .inl ⟨ns, rfl, (Option.some.inj h).symm⟩
  | fn k c => exact .inr (.inl ⟨k, c, rfl, (Option.some.inj h).symm⟩)
  | d d => exact .inr (.inr ⟨d, rfl, (Option.some.inj h).symm⟩)
  | map m => cases h
  | own xs =>
    have h : (Tv.own xs).frz.map Tv.d = some y := h
    cases e : (Tv.own xs).frz with
    | none => rw [e] at h; cases h
    | some d => rw [e] at h; exact .inr (.inr ⟨d, rfl, (Option.some.inj h).symm⟩)
theorem argTs_cons {x : Tv} {xs ys : List Tv} (h : argTs (x :: xs) = some ys) : ∃ a as, argT x = some a ∧ argTs xs = some as ∧ ys = a :: as := by
  rw [argTs] at h
  split at h
  · rename_i a as e1 e2
    exact ⟨a, as, e1, e2, (Option.some.inj h).symm⟩
  · cases h
theorem ORs.args {B : List Addr} (hB : ∀ a ∈ B, G a = none) : ∀ {xs ys : List Tv} {vs : List V} {M : List Addr}, ORs K G H xs vs M → argTs xs = some ys → (∀ a ∈ M, a ∈ B) → ORs K (freeze G H B) H ys vs []
  | _, _, _, _, .nil, h, _ => by rw [argTs] at h; cases h; exact .nil
  | _, _, _, _, .cons o t, h, hM => by
    obtain ⟨a, as, h1, h2, rfl⟩ := argTs_cons h
    have t' := ORs.args hB t h2 fun c hc => hM c (by simp [hc])
    rcases argT_frz h1 with ⟨ns, rfl, rfl⟩ | ⟨k, c, rfl, rfl⟩ | ⟨d, hd, rfl⟩
    · cases o with
      | scr o => exact ORs.cons (L := []) (.scr ((freeze_grow hB).seq o)) t'
    · cases o with
      | fn o => exact ORs.cons (L := []) (.fn (o.grow (freeze_grow hB))) t'
    · exact ORs.cons (L := []) (.d (o.frozen hB hd fun c hc => hM c (by simp [hc]))) t'
theorem Sta.frozenA {xs ys : List Tv} {vs : List V} (s : Sta K F G H ρ σ L) (q : ValL K F G H L xs vs M) (e : argTs xs = some ys) : Aft K F G (freeze G H M) H ρ σ L ∧ ORs K (freeze G H M) H ys vs [] := by
  have hM : ∀ a ∈ M, G a = none := fun a ha => (q.r.there a ha).2
  refine ⟨⟨⟨s.sr.step (freeze_grow hM) (fun _ _ => rfl) fun a ha => ?_, s.nd, s.fr, s.fh, freeze_same s.gh, s.tb, s.nt, freeze_nt s.ng fun a ha => q.r.list a ha⟩, freeze_grow hM, fun a h1 h2 => ?_⟩, ORs.args hM q.r e fun _ h => h⟩
  · rw [freeze_out fun h => q.ap a h ha]
    exact (s.sr.there a ha).2
  · by_cases h : a ∈ M
    · exact absurd (q.fr a h) h1
    · rw [freeze_out h]
      exact h2
theorem ORs.sr : ∀ {xs : List Tv} {vs : List V} {L : List Addr}, ORs K G H xs vs L → SR K G H (xs.map some) (vs.map some) L
  | _, _, _, .nil => .nil
  | _, _, _, .cons h t => .yes h t.sr
theorem SR.nones : ∀ n : Nat, SR K G H (List.replicate n none) (List.replicate n none) []
  | 0 => .nil
  | n + 1 => by rw [List.replicate_succ, List.replicate_succ]; exact .no (SR.nones n)
theorem SR.append : ∀ {ρ ρ' : Env'} {σ σ' : L2.St} {L M : List Addr}, SR K G H ρ σ L → SR K G H ρ' σ' M → SR K G H (ρ ++ ρ') (σ ++ σ') (L ++ M)
  | _, _, _, _, _, _, .nil, h => h
  | _, _, _, _, _, _, .no t, h => .no (t.append h)
  | _, _, _, _, _, _, .yes o t, h => by
    have := SR.yes o (t.append h)
    simpa [List.append_assoc] using this
theorem Sta.held {B : List Addr} (s : Sta K F G H ρ σ L) (hB : ∀ a ∈ B, a ∈ L) : Same F (Tr.hold F H B) ∧ Same (Tr.hold F H B) H := by
  refine ⟨hold_le fun a ha => s.fr a (hB a ha), fun a o e => ?_⟩
  unfold Tr.hold at e
  split at e
  · exact e
  · exact s.fh a o e
end
section
variable {K : PySem.W.Frag} {F G H : Hp} {σ : L2.St} {ρ : Env'} {L M : List Addr} {Q : Tv → Env' → Prop} {R : VK}
/-- a call that only reads -/
theorem call_data {ys : List Tv} {vs : List V} {fs : FS} {w : Option Nat} (hw : w = none) (s : Sta K F G H ρ σ L) (q : ORs K G H ys vs []) (hf : fs ys fun z _ => Q z ρ) (k : Kont K F G σ Q R) : liftF K w fs vs H R := by
  have hh := s.held (fun a h => h)
  refine ⟨Tr.hold F H L, G, ys, [], _, ⟨q.sr, List.nodup_nil, fun _ z => absurd z (by simp), hh.2, s.gh, s.tb, hold_nt s.nt fun a ha => s.sr.list a ha, s.ng⟩, hf, fun z v ns σ' G' H' L' M a qv _ hq => ?_⟩
  have same : ∀ b ∈ L, H' b = H b := fun b hb => by
    obtain ⟨⟨o, ho⟩, _⟩ := s.sr.there b hb
    have := a.st.fh b o (by rw [hold_in hb]; exact ho)
    rw [this, ho]
  have gn : ∀ b ∈ L, G' b = none := fun b hb => by
    obtain ⟨⟨o, ho⟩, hn⟩ := s.sr.there b hb
    refine a.gf b ?_ hn
    rw [hold_in hb, ho]
    exact fun z => by cases z
  refine k z v ρ G' H' L M ⟨⟨s.sr.step a.gg same gn, s.nd, s.fr, hh.1.trans a.st.fh, a.st.gh, a.st.tb, s.nt, a.st.ng⟩, a.gg, fun b h1 h2 => a.gf b (ne_of_some hh.1 h1) h2⟩ ⟨qv.r, qv.nd, fun b hb => hh.1.free (qv.fr b hb), fun b hb hl => ?_⟩ hq
  have := qv.fr b hb
  obtain ⟨⟨o, ho⟩, _⟩ := s.sr.there b hl
  rw [hold_in hl, ho] at this
  cases this
/-- a call whose first argument is a list that a name holds -/
theorem call_own {i : Nat} {ts : List Tv} {ys : List Tv} {v0 : V} {vs : List V} {fs : FS} (s : Sta K F G H ρ σ L) (e : ρ[i]? = some (some (.own ts))) (ev : σ[i]? = some (some v0)) (q : ORs K G H ys vs [])
    (hf : fs (.own ts :: ys) fun z news => ∃ x', news[0]? = some (some x') ∧ Q z (ρ.set i (some x'))) (k : Kont K F G σ Q R) : liftF K (some 0) fs (v0 :: vs) H R := by
  obtain ⟨v, P, M, S, e1, e2, r, put, _⟩ := s.sr.at e
  rw [ev] at e2
  cases e2
  have nd := s.nd
  rw [e1] at nd
  have sub : ∀ a ∈ P ++ S, a ∈ L := fun a ha => by rw [e1]; rcases List.mem_append.mp ha with h | h <;> simp [h]
  have apart : ∀ a ∈ M, a ∉ P ++ S := fun a ha hps => by
    rw [List.append_assoc, List.nodup_append] at nd
    obtain ⟨n1, n2, n3⟩ := nd
    rw [List.nodup_append] at n2
    rcases List.mem_append.mp hps with h | h
    · exact n3 a h a (by simp [ha]) rfl
    · exact n2.2.2 a ha a h rfl
  have hh := s.held sub
  refine ⟨Tr.hold F H (P ++ S), G, .own ts :: ys, M, _, ⟨?_, ?_, fun a ha => ?_, hh.2, s.gh, s.tb, hold_nt s.nt fun a ha => s.sr.list a (sub a ha), s.ng⟩, hf, fun z v' ns σ' G' H' L' M' a qv kp ⟨x', hx', hq⟩ => ?_⟩
  · have := SR.yes r q.sr
    simpa using this
  · exact nd.sublist (by simp)
  · unfold Tr.hold
    rw [if_neg (apart a ha)]
    exact s.fr a (by rw [e1]; simp [ha])
  have kp0 := kp 0 rfl
  simp only [List.getElem?_cons_zero, Option.map_some] at kp0
  obtain ⟨u, P', M0, S', f1, f2, r0, _⟩ := a.st.sr.at hx'
  rw [kp0] at f2
  cases f2
  have same : ∀ b ∈ P ++ S, H' b = H b := fun b hb => by
    obtain ⟨⟨o, ho⟩, _⟩ := s.sr.there b (sub b hb)
    have := a.st.fh b o (by rw [hold_in hb]; exact ho)
    rw [this, ho]
  have gn : ∀ b ∈ P ++ S, G' b = none := fun b hb => by
    obtain ⟨⟨o, ho⟩, hn⟩ := s.sr.there b (sub b hb)
    refine a.gf b ?_ hn
    rw [hold_in hb, ho]
    exact fun z => by cases z
  have m0 : ∀ b ∈ M0, b ∈ L' := fun b hb => by rw [f1]; simp [hb]
  have out : ∀ b, Tr.hold F H (P ++ S) b = none → b ∉ P ++ S := fun b hn hb => by
    obtain ⟨⟨o, ho⟩, _⟩ := s.sr.there b (sub b hb)
    rw [hold_in hb, ho] at hn
    cases hn
  have put' := put a.gg same gn r0
  rw [set_same ev] at put'
  have ndL' := a.st.nd
  rw [f1] at ndL'
  have ndM0 : M0.Nodup := ndL'.sublist (by simp)
  have mem3 : ∀ b ∈ P ++ M0 ++ S, b ∈ P ++ S ∨ b ∈ M0 := fun b hb => by
    rcases List.mem_append.mp hb with h | h
    · rcases List.mem_append.mp h with h | h
      · exact .inl (by simp [h])
      · exact .inr h
    · exact .inl (by simp [h])
  refine k z v' _ G' H' (P ++ M0 ++ S) M' ⟨⟨put', ?_, fun b hb => ?_, hh.1.trans a.st.fh, a.st.gh, a.st.tb, s.nt, a.st.ng⟩, a.gg, fun b h1 h2 => a.gf b (ne_of_some hh.1 h1) h2⟩ ⟨qv.r, qv.nd, fun b hb => hh.1.free (qv.fr b hb), fun b hb hl => ?_⟩ hq
  · have n0 : (P ++ S).Nodup := nd.sublist (by simp)
    rw [List.nodup_append] at n0
    rw [List.nodup_append]
    refine ⟨?_, n0.2.1, fun a1 h1 b1 hb e => ?_⟩
    · rw [List.nodup_append]
      exact ⟨n0.1, ndM0, fun a1 h1 b1 hb e => out b1 (a.st.fr b1 (m0 b1 hb)) (by rw [← e]; simp [h1])⟩
    · rcases List.mem_append.mp h1 with h | h
      · exact n0.2.2 a1 h b1 hb e
      · exact out a1 (a.st.fr a1 (m0 a1 h)) (by rw [e]; simp [hb])
  · rcases mem3 b hb with h | h
    · exact s.fr b (sub b h)
    · exact hh.1.free (a.st.fr b (m0 b h))
  · rcases mem3 b hl with h | h
    · exact out b (qv.fr b hb) h
    · exact qv.ap b hb (m0 b h)
end
end Tr
set_option Elab.async false
set_option linter.all false
set_option maxRecDepth 100000
set_option maxHeartbeats 1000000
namespace Tr
open PySem PySem.Spec PyProof.Rows L2
section
variable {X : Cx}
/-- l.index(x) among data: the first place of an equal one -/
def rIndexQ (K : PySem.W.Frag) : V → List V → Hp → VK → Prop := fun x xs H Q => ∃ (a : Addr) (vs : List V) (y : V) (d : PyData) (ds : List PyData) (j : Nat) (z : PyData), x = V.ref a ∧ xs = [y] ∧ SqL K H a vs ∧ DqAll H vs ds ∧ Dq H y d ∧
  shal 30 (.list ds) = true ∧ shal 30 d = true ∧ ds[j]? = some z ∧ PyData.eqv z d = true ∧ (∀ (m : Nat) (z' : PyData), m < j → ds[m]? = some z' → PyData.eqv z' d = false) ∧ Q (.int (j : Nat)) H
theorem mt_indexQ (hu : X.A.units + 200 < cLine) : MtR X "list.index" (rIndexQ X.K) := by
  intro pins s σ H x xs v us Q I rx rxs h
  obtain ⟨a, vs, y, d, ds, j, z, rfl, rfl, hs, ha, hy, sl, sd, hz, hzj, hno, q⟩ := h
  cases rx
  cases rxs with
  | cons ry rt =>
    rename_i uy ut
    cases rt
    obtain ⟨bs, r1⟩ := hy.reads I ry
    have p1 := shal_plain _ _ sl
    have p2 := shal_plain _ _ sd
    simp only [PyData.plain, PyData.depth] at p1
    obtain ⟨its, rv, ⟨⟨cls, dd, data, sls⟩, n, ho, hc, hdn, hdt⟩, hlen⟩ := I.list hs
    simp only at hc hdt
    subst hc hdt
    obtain ⟨as, h4⟩ := ha.readsT I rv
    have hn : its.length = ds.length := SeqAt.ReadsAll.length ds its as h4
    have hmap : its.map (SeqAt.readOf s.heap) = ds := SeqAt.readsAll_map_plain ds its as p1.1 h4
    have hvl := rv.length
    have hsl := sizeLine_eq
    obtain ⟨hjd, _⟩ := List.getElem?_eq_some_iff.mp hz
    have hjl : j < its.length := by omega
    have hj : j < its.toArray.size := by simpa using hjl
    have at_ : ∀ (m : Nat) (hm : m < its.toArray.size) (z' : PyData), ds[m]? = some z' → SeqAt.readOf s.heap its.toArray[m] = z' := by
      intro m hm z' hz'
      have hml : m < its.length := by simpa using hm
      rw [← hmap, List.getElem?_map, List.getElem?_eq_getElem hml] at hz'
      have e1 : SeqAt.readOf s.heap its[m] = z' := Option.some.inj (show some (SeqAt.readOf s.heap its[m]) = some z' from hz')
      simpa using e1
    refine call_meets PySem.F.slot_list_index ⟨_, ho, rfl⟩ PySem.F.entry_list_index (PySem.F.args_list_index_2 _ _)
      (SeqAt.list_indexAt a its.toArray n dd sls uy (fun u => PyData.eqv (SeqAt.readOf s.heap u) d) j hj (by omega) ?_ ?_) ⟨ho, SeqAt.items_plain (vs := its.toArray) (show ReadsAll s.heap its.toArray.toList ds as from h4) r1 p1.1 p2.1 (by omega), ?_⟩
    · show PyData.eqv (SeqAt.readOf s.heap its.toArray[j]) d = true
      rw [at_ j hj z hz]
      exact hzj
    · intro m hm hmj
      have hmd : m < ds.length := by omega
      have hz' : ds[m]? = some ds[m] := List.getElem?_eq_getElem hmd
      show PyData.eqv (SeqAt.readOf s.heap its.toArray[m]) d = false
      rw [at_ m hm _ hz']
      exact hno m _ hmj hz'
    · exact ⟨.int (j : Nat), H, I.tok _, ⟨_, rfl⟩, q⟩
end
end Tr
set_option Elab.async false
set_option linter.all false
set_option maxRecDepth 100000
set_option maxHeartbeats 2000000
namespace Tr
open PySem PySem.Spec PyProof.Rows L2
section
variable {K : PySem.W.Frag} {F G G' H H' : Hp} {σ : L2.St} {ρ : Env'} {L M : List Addr}
theorem ORs.at : ∀ {xs : List Tv} {vs : List V} {L : List Addr} {i : Nat} {x : Tv}, ORs K G H xs vs L → xs[i]? = some x →
    ∃ v P M S, L = P ++ M ++ S ∧ vs[i]? = some v ∧ OR K G H x v M ∧
      ∀ {H' : Hp} {x' : Tv} {v' : V} {M' : List Addr}, (∀ a ∈ P ++ S, H' a = H a) → OR K G H' x' v' M' → ORs K G H' (xs.set i x') (vs.set i v') (P ++ M' ++ S)
  | _, _, _, _, _, .nil, e => by simp at e
  | _, _, _, 0, _, .cons (v := v) (L := L) (M := M) h t, e => by
    simp at e; subst e
    exact ⟨v, [], L, M, rfl, rfl, h, fun k q => .cons q (t.step (Same.refl _) (fun a ha => k a ha) fun a ha => (t.there a ha).2)⟩
  | _, _, _, i + 1, x, .cons (L := L) h0 t, e => by
    obtain ⟨v, P, M, S, e1, e2, h, k1⟩ := ORs.at (i := i) t (by simpa using e)
    refine ⟨v, L ++ P, M, S, by rw [e1]; simp, by simpa using e2, h, fun k q => ?_⟩
    have := ORs.cons (h0.step (Same.refl _) (fun a ha => k a (by simp [ha])) fun a ha => (h0.there a ha).2) (k1 (fun a ha => k a (by rcases List.mem_append.mp ha with h | h <;> simp [h])) q)
    simpa [List.append_assoc] using this
/-- the removed one -/
theorem ORs.erase : ∀ {xs : List Tv} {vs : List V} {L : List Addr} {i : Nat} {x : Tv}, ORs K G H xs vs L → xs[i]? = some x →
    ∃ v P M S, L = P ++ M ++ S ∧ vs[i]? = some v ∧ OR K G H x v M ∧ ORs K G H (xs.eraseIdx i) (vs.eraseIdx i) (P ++ S)
  | _, _, _, _, _, .nil, e => by simp at e
  | _, _, _, 0, _, .cons (v := v) (L := L) (M := M) h t, e => by
    simp at e; subst e
    exact ⟨v, [], L, M, rfl, rfl, h, t⟩
  | _, _, _, i + 1, x, .cons (L := L) h0 t, e => by
    obtain ⟨v, P, M, S, e1, e2, h, k1⟩ := ORs.erase (i := i) t (by simpa using e)
    refine ⟨v, L ++ P, M, S, by rw [e1]; simp, by simpa using e2, h, ?_⟩
    have := ORs.cons h0 k1
    simpa [List.append_assoc] using this
theorem ORs.cat : ∀ {xs ys : List Tv} {vs us : List V} {L M : List Addr}, ORs K G H xs vs L → ORs K G H ys us M → ORs K G H (xs ++ ys) (vs ++ us) (L ++ M)
  | _, _, _, _, _, _, .nil, h => h
  | _, _, _, _, _, _, .cons o t, h => by
    have := ORs.cons o (t.cat h)
    simpa [List.append_assoc] using this
theorem mem_mid {P M S : List Addr} {a : Addr} : a ∈ P ++ M ++ S ↔ a ∈ P ++ S ∨ a ∈ M := by
  simp only [List.mem_append]
  constructor
  · rintro ((h | h) | h)
    · exact .inl (.inl h)
    · exact .inr h
    · exact .inl (.inr h)
  · rintro ((h | h) | h)
    · exact .inl (.inl h)
    · exact .inr h
    · exact .inl (.inr h)
theorem nodup_mid {P M S : List Addr} (h : (P ++ M ++ S).Nodup) : (P ++ S).Nodup ∧ M.Nodup ∧ ∀ a ∈ M, a ∉ P ++ S := by
  refine ⟨h.sublist (by simp), h.sublist (by simp), fun a ha hps => ?_⟩
  rw [List.append_assoc, List.nodup_append] at h
  obtain ⟨n1, n2, n3⟩ := h
  rw [List.nodup_append] at n2
  rcases List.mem_append.mp hps with h | h
  · exact n3 a h a (by simp [ha]) rfl
  · exact n2.2.2 a ha a h rfl
theorem mid_nodup {P M S : List Addr} (h : (P ++ S).Nodup) (hm : M.Nodup) (ap : ∀ a ∈ M, a ∉ P ++ S) : (P ++ M ++ S).Nodup := by
  rw [List.nodup_append] at h
  rw [List.nodup_append]
  refine ⟨?_, h.2.1, fun a ha b hb e => ?_⟩
  · rw [List.nodup_append]
    exact ⟨h.1, hm, fun a ha b hb e => ap b hb (by rw [← e]; simp [ha])⟩
  · rcases List.mem_append.mp ha with q | q
    · exact h.2.2 a q b hb e
    · exact ap a q (by rw [e]; simp [hb])
/-- a name's own list, as it stands, and how it is written -/
theorem Sta.own {i : Nat} {ts : List Tv} (s : Sta K F G H ρ σ L) (e : ρ[i]? = some (some (.own ts))) : ∃ a vs M', σ[i]? = some (some (.ref a)) ∧ H a = some (.lst vs) ∧ ORs K G H ts vs M' ∧ M'.Nodup ∧ (∀ b ∈ M', b ∈ L) ∧ a ∈ L ∧ a ∉ M' ∧
    ∀ {ts' : List Tv} {vs' : List V} {M'' : List Addr}, ORs K G H ts' vs' M'' → M''.Nodup → (∀ b ∈ M'', b ∈ M' ∨ (b ∉ L ∧ F b = none)) →
      ∃ L', Aft K F G G (upd H a (.lst vs')) (ρ.set i (some (.own ts'))) σ L' ∧ ∀ b ∈ L', (b ∈ L ∧ (b ∈ M' → b ∈ M'')) ∨ b ∈ M'' := by
  obtain ⟨v, P, M, S, e1, e2, r, put, _⟩ := s.sr.at e
  cases r with
  | own hA hG r =>
    rename_i a vs M'
    have nd := s.nd
    rw [e1] at nd
    obtain ⟨n1, n2, n3⟩ := nodup_mid nd
    have n2' := List.nodup_cons.mp n2
    have aL : a ∈ L := by rw [e1]; simp
    have ML : ∀ b ∈ M', b ∈ L := fun b hb => by rw [e1]; simp [hb]
    have PL : ∀ b ∈ P ++ S, b ∈ L := fun b hb => by rw [e1]; exact mem_mid.mpr (.inl hb)
    refine ⟨a, vs, M', e2, hA, r, n2'.2, ML, aL, n2'.1, fun {ts' vs' M''} r' nd' hM => ?_⟩
    have aM : a ∉ M'' := fun h => by
      rcases hM a h with q | q
      · exact n2'.1 q
      · exact q.1 aL
    have ne : ∀ b ∈ M'', b ≠ a := fun b hb z => aM (z ▸ hb)
    have neP : ∀ b ∈ P ++ S, b ≠ a := fun b hb z => n3 a (by simp) (z ▸ hb)
    have put' := put (G' := G) (H' := upd H a (.lst vs')) (x' := .own ts') (v' := .ref a) (M' := a :: M'') (Same.refl _) (fun b hb => upd_ne (neP b hb)) (fun b hb => (s.sr.there b (PL b hb)).2)
      (.own upd_same hG (r'.step (Same.refl _) (fun b hb => upd_ne (ne b hb)) fun b hb => (r'.there b hb).2))
    rw [set_same e2] at put'
    have disj : ∀ b ∈ a :: M'', b ∉ P ++ S := fun b hb hp => by
      rcases List.mem_cons.mp hb with q | q
      · exact neP b hp q
      · rcases hM b q with z | z
        · exact n3 b (by simp [z]) hp
        · exact z.1 (PL b hp)
    refine ⟨_, ⟨⟨put', mid_nodup n1 (List.nodup_cons.mpr ⟨aM, nd'⟩) disj, fun b hb => ?_, fun b o q => ?_, fun b o q => ?_, tabs_write s.tb hA, s.nt, s.ng⟩, Same.refl _, fun _ _ h => h⟩, fun b hb => ?_⟩
    · rcases mem_mid.mp hb with q | q
      · exact s.fr b (PL b q)
      · rcases List.mem_cons.mp q with q | q
        · rw [q]; exact s.fr a aL
        · rcases hM b q with z | z
          · exact s.fr b (ML b z)
          · exact z.2
    · rw [upd_ne (fun z => by rw [z, s.fr a aL] at q; cases q)]; exact s.fh b o q
    · rw [upd_ne (fun z => by rw [z, hG] at q; cases q)]; exact s.gh b o q
    · rcases mem_mid.mp hb with q | q
      · exact .inl ⟨PL b q, fun hm => absurd q (n3 b (by simp [hm]))⟩
      · rcases List.mem_cons.mp q with q | q
        · exact .inl ⟨by rw [q]; exact aL, fun hm => absurd (q ▸ hm) n2'.1⟩
        · exact .inr q
/-- xs[j1][j] of a name's own list of own lists -/
theorem Sta.own2 {i j1 : Nat} {ts us : List Tv} (s : Sta K F G H ρ σ L) (e : ρ[i]? = some (some (.own ts))) (e1 : ts[j1]? = some (.own us)) : ∃ a vs b ws N', σ[i]? = some (some (.ref a)) ∧ H a = some (.lst vs) ∧ vs.length = ts.length ∧ vs[j1]? = some (.ref b) ∧
    H b = some (.lst ws) ∧ ORs K G H us ws N' ∧ N'.Nodup ∧ (∀ c ∈ N', c ∈ L) ∧
    ∀ {us' : List Tv} {ws' : List V} {M'' : List Addr}, ORs K G H us' ws' M'' → M''.Nodup → (∀ c ∈ M'', c ∈ N' ∨ (c ∉ L ∧ F c = none)) →
      ∃ L', Aft K F G G (upd H b (.lst ws')) (ρ.set i (some (.own (ts.set j1 (.own us'))))) σ L' := by
  obtain ⟨v, P, M, S, f1, f2, r, put, _⟩ := s.sr.at e
  cases r with
  | own hA hG r =>
    rename_i a vs M'
    obtain ⟨w, P2, M2, S2, g1, g2, r2, put2⟩ := r.at e1
    cases r2 with
    | own hB hGb r3 =>
      rename_i b ws N'
      have nd := s.nd
      rw [f1] at nd
      obtain ⟨n1, n2, n3⟩ := nodup_mid nd
      have n2' := List.nodup_cons.mp n2
      have nd2 := n2'.2
      rw [g1] at nd2
      obtain ⟨m1, m2, m3⟩ := nodup_mid nd2
      have m2' := List.nodup_cons.mp m2
      have inM : ∀ c ∈ P2 ++ (b :: N') ++ S2, c ∈ L := fun c hc => by rw [f1]; refine mem_mid.mpr (.inr (List.mem_cons_of_mem _ ?_)); rw [g1]; exact hc
      have aL : a ∈ L := by rw [f1]; simp
      have bL : b ∈ L := inM b (by simp)
      have PL : ∀ c ∈ P ++ S, c ∈ L := fun c hc => by rw [f1]; exact mem_mid.mpr (.inl hc)
      have ba : b ≠ a := fun z => n2'.1 (by rw [g1, ← z]; simp)
      have NL : ∀ c ∈ N', c ∈ L := fun c hc => inM c (by simp [hc])
      refine ⟨a, vs, b, ws, N', f2, hA, r.length.symm, g2, hB, r3, m2'.2, NL, fun {us' ws' M''} r' nd' hM => ?_⟩
      have bM : b ∉ M'' := fun h => by
        rcases hM b h with q | q
        · exact m2'.1 q
        · exact q.1 bL
      have neB : ∀ c ∈ M'', c ≠ b := fun c hc z => bM (z ▸ hc)
      have neP2 : ∀ c ∈ P2 ++ S2, c ≠ b := fun c hc z => m3 b (by simp) (z ▸ hc)
      have neP : ∀ c ∈ P ++ S, c ≠ b := fun c hc z => n3 b (by rw [g1]; simp) (z ▸ hc)
      have q2 := put2 (H' := upd H b (.lst ws')) (x' := .own us') (v' := .ref b) (M' := b :: M'') (fun c hc => upd_ne (neP2 c hc)) (.own upd_same hGb (r'.step (Same.refl _) (fun c hc => upd_ne (neB c hc)) fun c hc => (r'.there c hc).2))
      rw [set_same g2] at q2
      have inner : ∀ c ∈ b :: M'', c ∉ P2 ++ S2 := fun c hc hp => by
        rcases List.mem_cons.mp hc with q | q
        · exact neP2 c hp q
        · rcases hM c q with z | z
          · exact m3 c (by simp [z]) hp
          · exact z.1 (inM c (mem_mid.mpr (.inl hp)))
      have ndI := mid_nodup m1 (List.nodup_cons.mpr ⟨bM, nd'⟩) inner
      have aI : a ∉ P2 ++ (b :: M'') ++ S2 := fun h => by
        rcases mem_mid.mp h with q | q
        · exact n2'.1 (by rw [g1]; exact mem_mid.mpr (.inl q))
        · rcases List.mem_cons.mp q with q | q
          · exact ba q.symm
          · rcases hM a q with z | z
            · exact n2'.1 (by rw [g1]; exact mem_mid.mpr (.inr (by simp [z])))
            · exact z.1 aL
      have put' := put (G' := G) (H' := upd H b (.lst ws')) (x' := .own (ts.set j1 (.own us'))) (v' := .ref a) (M' := a :: (P2 ++ (b :: M'') ++ S2)) (Same.refl _) (fun c hc => upd_ne (neP c hc)) (fun c hc => (s.sr.there c (PL c hc)).2)
        (.own (by rw [upd_ne ba.symm]; exact hA) hG q2)
      rw [set_same f2] at put'
      have outer : ∀ c ∈ a :: (P2 ++ (b :: M'') ++ S2), c ∉ P ++ S := fun c hc hp => by
        rcases List.mem_cons.mp hc with q | q
        · exact n3 c (by simp [q]) hp
        · rcases mem_mid.mp q with q | q
          · exact n3 c (by rw [g1]; exact List.mem_cons_of_mem _ (mem_mid.mpr (.inl q))) hp
          · rcases List.mem_cons.mp q with q | q
            · exact neP c hp q
            · rcases hM c q with z | z
              · exact n3 c (by rw [g1]; exact List.mem_cons_of_mem _ (mem_mid.mpr (.inr (by simp [z])))) hp
              · exact z.1 (PL c hp)
      refine ⟨_, ⟨⟨put', mid_nodup n1 (List.nodup_cons.mpr ⟨aI, ndI⟩) outer, fun c hc => ?_, fun c o q => ?_, fun c o q => ?_, tabs_write s.tb hB, s.nt, s.ng⟩, Same.refl _, fun _ _ h => h⟩⟩
      · rcases mem_mid.mp hc with q | q
        · exact s.fr c (PL c q)
        · rcases List.mem_cons.mp q with q | q
          · rw [q]; exact s.fr a aL
          · rcases mem_mid.mp q with q | q
            · exact s.fr c (inM c (mem_mid.mpr (.inl q)))
            · rcases List.mem_cons.mp q with q | q
              · rw [q]; exact s.fr b bL
              · rcases hM c q with z | z
                · exact s.fr c (NL c z)
                · exact z.2
      · rw [upd_ne (fun z => by rw [z, s.fr b bL] at q; cases q)]; exact s.fh c o q
      · rw [upd_ne (fun z => by rw [z, hGb] at q; cases q)]; exact s.gh c o q
end
/-- the defs that a body may call -/
structure GdC (Φ : Phi) (k : Nat) (X : Cx) : Prop where
  rm : Room k X.A
  fns : ∀ f fe, Φ f = some fe → lamB f = false → ∃ addr fd, X.mg f = some (.ref addr) ∧ PySem.W.keepIn X.K (.ref addr) = true ∧ GnOk X.prog X.w X.K X.mg X.base k addr fd fe.ps (liftF X.K fe.ow fe.fs) ∧ Binds X.K fd fe.ps [] ∧ ∀ ks ∈ fe.kw, BK fd fe.ps ks
  lms : ∀ f fe, Φ f = some fe → lamB f = true → LamHas X.prog X.w X.K X.mg X.base k fe
theorem GdC.blk {Φ : Phi} {k : Nat} {X : Cx} (g : GdC Φ k X) (scope : Scope) (s : Shared) (H : Hp) (C : Addr) (cl : List (Str × Addr)) (fp : List Addr) : GdC Φ k (X.blk s H scope (compEnvC scope cl C X.env) fp) := ⟨g.rm, g.fns, g.lms⟩
section
variable {Γ : Gam} {Φ : Phi} {k : Nat} {N : List Str} {sc : Scope} {X : Cx} {l r : Expr} {es : List Expr} {pos px : Pos} {w w1 w2 : WE} {wl : WL} {n : Nat}
theorem plain_any {env : Env} : ∀ {es : List Expr}, es.all plainE = true → (backTo pos (starEach es env)).any (·.1) = false
  | [], _ => rfl
  | e :: es, h => by
    rw [List.all_cons, Bool.and_eq_true] at h
    rw [starEach_plain h.1]
    show (false || (backTo pos (starEach es env)).any (·.1)) = false
    rw [plain_any h.2]
    rfl
theorem e_call (g : Gd Γ N sc X) (c : GdC Φ k X) {f : Str} (hg : glB sc f = true) (hn : nmB f = true) (hlb : lamB f = false) (ha : PA X (l :: es) (liftL X.K n wl)) (pl : plainE l = true) (ps : es.all plainE = true) :
    PE X (.Call (.Name f px) (l :: es) [] pos) (lift X.K fun ρ Q => ∃ fe, Φ f = some fe ∧ fe.ow = none ∧ wl ρ fun xs ρ1 => ∃ as, argTs xs = some as ∧ fe.fs as fun z _ => Q z ρ1) := by
  refine ⟨fun pins s σ H R I ⟨F, G, ρ, L, Q, st, ⟨fe, hf, ho, hw⟩, kt⟩ => ?_⟩
  obtain ⟨addr, fd, hm, hk, gn, hb, _⟩ := c.fns f fe hf hlb
  refine (pe_gn gn c.rm g.gd (g.glo hg) hm hk hb ha (nm1 hn) (starEach_plain pl) (plain_any ps)).run pins s σ H R I ?_
  refine ⟨F, G, ρ, L, _, st, hw, fun xs vs ρ' G' H' L' M a q _ ⟨as, h1, h2⟩ => ?_⟩
  obtain ⟨b, r⟩ := a.st.frozenA q h1
  exact call_data ho b.st r h2 (Kont.step kt (a.trans b))
theorem starV {i : Nat} {e : Expr} {es : List Expr} {env : Env} (h : okSE N sc (.var i) e = true) : plainE e = true := by
  obtain ⟨x, pos, rfl, _⟩ := okSE_var h
  rfl
theorem e_callO (g : Gd Γ N sc X) (c : GdC Φ k X) {f : Str} (hg : glB sc f = true) (hn : nmB f = true) (hlb : lamB f = false) {i : Nat} (hv : okSE N sc (.var i) l = true) (ha : PA X es (liftL X.K n wl)) (ps : es.all plainE = true) :
    PE X (.Call (.Name f px) (l :: es) [] pos) (lift X.K fun ρ Q => ∃ fe, Φ f = some fe ∧ fe.ow = some 0 ∧ (∃ x, ρ[i]? = some (some x)) ∧ wl ρ fun xs ρ1 => ∃ as ts, argTs xs = some as ∧ ρ1[i]? = some (some (.own ts)) ∧
      fe.fs (.own ts :: as) fun z news => ∃ x', news[0]? = some (some x') ∧ Q z (ρ1.set i (some x'))) := by
  refine ⟨fun pins s σ H R I ⟨F, G, ρ, L, Q, st, ⟨fe, hf, ho, ⟨x0, hx0⟩, hw⟩, kt⟩ => ?_⟩
  obtain ⟨addr, fd, hm, hk, gn, hb, _⟩ := c.fns f fe hf hlb
  rw [ho] at gn
  have pl := starV (es := es) (env := X.env) hv
  obtain ⟨z, p, rfl, h⟩ := okSE_var hv
  refine (pe_gn gn c.rm g.gd (g.glo hg) hm hk hb (pa_cons (e_name g h) ha (starEach_plain pl)) (nm1 hn) (starEach_plain pl) (plain_any ps)).run pins s σ H R I ?_
  obtain ⟨v0, _, _, _, _, ev, _⟩ := st.sr.at hx0
  refine ⟨v0, ev, F, G, ρ, L, _, st, hw, fun xs vs ρ' G' H' L' M a q _ ⟨as, ts, h1, h2, h3⟩ => ?_⟩
  obtain ⟨b, r⟩ := a.st.frozenA q h1
  exact call_own b.st h2 ev r h3 (Kont.step kt (a.trans b))
def okSEs (N : List Str) (sc : Scope) : List SE → List Expr → Bool
  | [], xs => xs.isEmpty
  | s :: ss, xs => (match xs with | x :: xs => plainE x && okSE N sc s x && okSEs N sc ss xs | [] => false)
def OLs (K : PySem.W.Frag) (G H : Hp) (L : List Addr) : List Tv → List V → Prop := Paired fun x v => ∃ M, OR K G H x v M ∧ ∀ a ∈ M, a ∈ L
def liftSL (K : PySem.W.Frag) (Γ : Gam) (ss : List SE) : TA := fun σ H R => ∃ F G ρ L xs, Sta K F G H ρ σ L ∧ svs Γ ρ ss = some xs ∧ ∀ vs, OLs K G H L xs vs → R vs H
theorem svs_cons {ρ : Env'} {s : SE} {ss : List SE} {ys : List Tv} (h : svs Γ ρ (s :: ss) = some ys) : ∃ x xs, sv Γ ρ s = some x ∧ svs Γ ρ ss = some xs ∧ ys = x :: xs := by
  rw [svs] at h
  split at h
  · rename_i x xs e1 e2
    exact ⟨x, xs, e1, e2, (Option.some.inj h).symm⟩
  · cases h
theorem a_ses (g : Gd Γ N sc X) : ∀ (ss : List SE) (xs : List Expr), okSEs N sc ss xs = true → PA X xs (liftSL X.K Γ ss)
  | [], xs, h => by
    have h : xs.isEmpty = true := h
    rw [List.isEmpty_iff] at h
    subst h
    exact PA.imp pa_nil fun σ H R ⟨F, G, ρ, L, xs, s, e, k⟩ => by
      cases e
      exact k [] .nil
  | s :: ss, [], h => nomatch (show false = true from h)
  | s :: ss, x :: xs, h => by
    have h : (plainE x && okSE N sc s x && okSEs N sc ss xs) = true := h
    simp only [Bool.and_eq_true] at h
    refine PA.imp (pa_cons (se_ok g s x h.1.2) (a_ses g ss xs h.2) (starEach_plain h.1.1)) fun σ H R ⟨F, G, ρ, L, ys, st, e, k⟩ => ?_
    obtain ⟨y, ys, e1, e2, rfl⟩ := svs_cons e
    exact ⟨F, G, ρ, L, y, st, e1, fun v M r hM => ⟨F, G, ρ, L, ys, st, e2, fun vs hv => k (v :: vs) (.cons ⟨M, r, hM⟩ hv)⟩⟩
theorem ses_plain : ∀ (ss : List SE) (xs : List Expr), okSEs N sc ss xs = true → xs.all plainE = true
  | [], xs, h => by
    have h : xs.isEmpty = true := h
    rw [List.isEmpty_iff] at h
    subst h
    rfl
  | s :: ss, [], h => nomatch (show false = true from h)
  | s :: ss, x :: xs, h => by
    have h : (plainE x && okSE N sc s x && okSEs N sc ss xs) = true := h
    simp only [Bool.and_eq_true] at h
    rw [List.all_cons, h.1.1, ses_plain ss xs h.2]
    rfl
theorem lent_args {K : PySem.W.Frag} {G H : Hp} {L : List Addr} (hL : ∀ a ∈ L, G a = none) : ∀ {xs ys : List Tv} {vs : List V}, OLs K G H L xs vs → argTs xs = some ys → ORs K (freeze G H L) H ys vs []
  | _, _, _, .nil, h => by rw [argTs] at h; cases h; exact .nil
  | _, _, _, .cons ⟨M, o, hM⟩ t, h => by
    obtain ⟨a, as, h1, h2, rfl⟩ := argTs_cons h
    have t' := lent_args hL t h2
    rcases argT_frz h1 with ⟨ns, rfl, rfl⟩ | ⟨k, c, rfl, rfl⟩ | ⟨d, hd, rfl⟩
    · cases o with
      | scr o => exact ORs.cons (L := []) (.scr ((freeze_grow hL).seq o)) t'
    · cases o with
      | fn o => exact ORs.cons (L := []) (.fn (o.grow (freeze_grow hL))) t'
    · exact ORs.cons (L := []) (.d (o.frozen hL hd hM)) t'
theorem scal_any {K : PySem.W.Frag} {G G' H H' : Hp} {z : Tv} {v : V} {M : List Addr} (h : scalT z = true) (o : OR K G H z v M) : OR K G' H' z v [] := by
  cases o with
  | d o => cases o <;> first | exact .d .non | exact .d (.bl _) | exact .d (.int _) | exact .d (.str _) | exact nomatch (show false = true from h)
  | own _ _ _ => exact nomatch (show false = true from h)
  | scr _ => exact nomatch (show false = true from h)
  | fn _ => exact nomatch (show false = true from h)
  | map _ _ _ => exact nomatch (show false = true from h)
theorem call_lent {K : PySem.W.Frag} {F G H : Hp} {σ : L2.St} {ρ : Env'} {L : List Addr} {Q : Tv → Env' → Prop} {R : VK} {xs ys : List Tv} {vs : List V} {fs : FS} {w : Option Nat} (hw : w = none) (s : Sta K F G H ρ σ L)
    (q : OLs K G H L xs vs) (ha : argTs xs = some ys) (hf : fs ys fun z _ => scalT z = true ∧ Q z ρ) (k : Kont K F G σ Q R) : liftF K w fs vs H R := by
  have hL : ∀ a ∈ L, G a = none := fun a ha => (s.sr.there a ha).2
  have hh := s.held (fun a h => h)
  have args := lent_args hL q ha
  refine ⟨Tr.hold F H L, freeze G H L, ys, [], _, ⟨args.sr, List.nodup_nil, fun _ z => absurd z (by simp), hh.2, freeze_same s.gh, s.tb, hold_nt s.nt fun a ha => s.sr.list a ha, freeze_nt s.ng fun a ha => s.sr.list a ha⟩, hf, fun z v ns σ' G' H' L' M a qv _ ⟨hz, hq⟩ => ?_⟩
  have same : ∀ b ∈ L, H' b = H b := fun b hb => by
    obtain ⟨⟨o, ho⟩, _⟩ := s.sr.there b hb
    have := a.st.fh b o (by rw [hold_in hb]; exact ho)
    rw [this, ho]
  have grow : Same G (fun b => if b ∈ L then none else G' b) := fun b o e => by
    have nb : b ∉ L := fun hb => by rw [hL b hb] at e; cases e
    show (if b ∈ L then none else G' b) = some o
    rw [if_neg nb]
    exact a.gg b o (by rw [freeze_out nb]; exact e)
  refine k z v ρ (fun b => if b ∈ L then none else G' b) H' L [] ⟨⟨s.sr.step grow same fun b hb => if_pos hb, s.nd, s.fr, hh.1.trans a.st.fh, fun b o e => ?_, a.st.tb, s.nt, fun b ps e => by
    have e : (if b ∈ L then none else G' b) = some (.tbl ps) := e
    split at e
    · cases e
    · exact a.st.ng b ps e⟩, grow, fun b h1 h2 => ?_⟩ ⟨scal_any hz qv.r, List.nodup_nil, fun _ z => absurd z (by simp), fun _ z => absurd z (by simp)⟩ hq
  · have e : (if b ∈ L then none else G' b) = some o := e
    by_cases hb : b ∈ L
    · rw [if_pos hb] at e
      cases e
    · rw [if_neg hb] at e
      exact a.st.gh b o e
  · show (if b ∈ L then none else G' b) = none
    by_cases hb : b ∈ L
    · exact if_pos hb
    · rw [if_neg hb]
      exact a.gf b (ne_of_some hh.1 h1) (by rw [freeze_out hb]; exact h2)
theorem e_callL (g : Gd Γ N sc X) (c : GdC Φ k X) {f : Str} {ss : List SE} (hg : glB sc f = true) (hn : nmB f = true) (hlb : lamB f = false) (ha : okSEs N sc ss (l :: es) = true) :
    PE X (.Call (.Name f px) (l :: es) [] pos) (lift X.K fun ρ Q => ∃ fe xs as, Φ f = some fe ∧ fe.ow = none ∧ svs Γ ρ ss = some xs ∧ argTs xs = some as ∧ fe.fs as fun z _ => scalT z = true ∧ Q z ρ) := by
  refine ⟨fun pins s σ H R I ⟨F, G, ρ, L, Q, st, ⟨fe, xs, as, hf, ho, h1, h2, h3⟩, kt⟩ => ?_⟩
  obtain ⟨addr, fd, hm, hk, gn, hb, _⟩ := c.fns f fe hf hlb
  have hp := ses_plain ss _ ha
  rw [List.all_cons, Bool.and_eq_true] at hp
  refine (pe_gn gn c.rm g.gd (g.glo hg) hm hk hb (a_ses g ss _ ha) (nm1 hn) (starEach_plain hp.1) (plain_any hp.2)).run pins s σ H R I ?_
  exact ⟨F, G, ρ, L, xs, st, h1, fun vs hv => call_lent ho st hv h2 h3 kt⟩
theorem lookup_zip {R : α → β → Prop} {as : List α} {bs : List β} (h : Paired R as bs) : ∀ {ks : List Str} {p : Str} {a : α}, (ks.zip as).lookup p = some a → ∃ b, (ks.zip bs).lookup p = some b ∧ R a b := by
  induction h with
  | nil => intro ks p a e; simp at e
  | cons r t ih =>
    intro ks p a e
    cases ks with
    | nil => simp at e
    | cons k ks =>
      rw [List.zip_cons_cons, List.lookup_cons] at e ⊢
      split at e
      · cases e; exact ⟨_, rfl, r⟩
      · exact ih e
theorem kperm_rel {R : α → β → Prop} {as : List α} {bs : List β} {ks : List Str} (h : Paired R as bs) : ∀ {ps : List Str} {cs : List α}, kperm ks as ps = some cs → ∃ ds, kperm ks bs ps = some ds ∧ Paired R cs ds
  | [], cs, e => by cases e; exact ⟨[], rfl, .nil⟩
  | p :: ps, cs, e => by
    rw [kperm] at e
    split at e
    · rename_i a as' e1 e2
      cases e
      obtain ⟨b, h1, h2⟩ := lookup_zip h e1
      obtain ⟨ds, h3, h4⟩ := kperm_rel h e2
      exact ⟨b :: ds, by rw [kperm, h1, h3], .cons h2 h4⟩
    · cases e
theorem ors_fa {K : PySem.W.Frag} {G H : Hp} : ∀ {xs : List Tv} {vs : List V} {M : List Addr}, ORs K G H xs vs M → M = [] → Paired (fun x v => OR K G H x v []) xs vs
  | _, _, _, .nil, _ => .nil
  | _, _, _, .cons (L := L) (M := M) r t, e => by
    obtain ⟨e1, e2⟩ := List.append_eq_nil_iff.mp e
    subst e1
    exact .cons r (ors_fa t e2)
theorem fa_ors {K : PySem.W.Frag} {G H : Hp} : ∀ {xs : List Tv} {vs : List V}, Paired (fun x v => OR K G H x v []) xs vs → ORs K G H xs vs []
  | _, _, .nil => .nil
  | _, _, .cons r t => by simpa using ORs.cons r (fa_ors t)
def kwNames : List Keyword → List Str
  | [] => []
  | ⟨some x, _, _⟩ :: r => x :: kwNames r
  | ⟨none, _, _⟩ :: r => kwNames r
def kwVals : List Keyword → List Expr
  | [] => []
  | ⟨_, e, _⟩ :: r => e :: kwVals r
def kwAll : List Keyword → Bool
  | [] => true
  | ⟨some _, _, _⟩ :: r => kwAll r
  | ⟨none, _, _⟩ :: r => false
theorem kw_all {env : Env} : ∀ {kws : List Keyword}, kwAll kws = true → (backToKw pos (keywordEach kws env)).all (·.1.isSome) = true ∧ (backToKw pos (keywordEach kws env)).filterMap (·.1) = kwNames kws ∧ (backToKw pos (keywordEach kws env)).any (·.1.isNone) = false
  | [], _ => ⟨rfl, rfl, rfl⟩
  | ⟨some x, e, p⟩ :: r, h => by
    obtain ⟨h1, h2, h3⟩ := kw_all (kws := r) (env := env) h
    refine ⟨?_, ?_, ?_⟩
    · show (true && (backToKw pos (keywordEach r env)).all (·.1.isSome)) = true
      rw [h1]; rfl
    · show x :: (backToKw pos (keywordEach r env)).filterMap (·.1) = _
      rw [h2]; rfl
    · show (false || (backToKw pos (keywordEach r env)).any (·.1.isNone)) = false
      rw [h3]; rfl
  | ⟨none, e, p⟩ :: r, h => nomatch (show false = true from h)
theorem k_nil : PK X [] (liftL X.K 0 fun ρ Q => Q [] ρ) := ⟨fun pos pins s σ H R I ⟨F, G, ρ, L, Q, st, hw, k⟩ => pk_nil.run pos pins s σ H R I (k [] [] ρ G H L [] (Aft.refl st) ⟨.nil, List.nodup_nil, fun _ z => absurd z (by simp), fun _ z => absurd z (by simp)⟩ rfl hw)⟩
theorem k_cons {nm : Option Str} {kpos : Pos} {kws : List Keyword} (ha : PE X l (lift X.K w)) (hr : PK X kws (liftL X.K n wl)) : PK X (⟨nm, l, kpos⟩ :: kws) (liftL X.K (n + 1) fun ρ Q => w ρ fun x ρ1 => wl ρ1 fun xs ρ2 => Q (x :: xs) ρ2) := by
  refine ⟨fun pos pins s σ H R I ⟨F, G, ρ, L, Q, st, hw, k⟩ => (pk_cons ha hr).run pos pins s σ H R I ?_⟩
  refine ⟨F, G, ρ, L, _, st, hw, fun x v ρ1 G1 H1 L1 M a q hb => ⟨Tr.hold F H1 M, G1, ρ1, L1, _, a.st.hold q, hb, fun xs vs ρ2 G2 H2 L2 M2 b q2 hn hq => ?_⟩⟩
  obtain ⟨b1, q1⟩ := Aft.held q b
  refine k (x :: xs) (v :: vs) ρ2 G2 H2 L2 (M ++ M2) (a.trans b1) ⟨.cons q1.r q2.r, ?_, fun c hc => ?_, fun c hc => ?_⟩ (by simp [hn]) hq
  · rw [List.nodup_append]
    refine ⟨q1.nd, q2.nd, fun c hc d hd e => ?_⟩
    subst e
    have := q2.fr c hd
    obtain ⟨⟨o, ho⟩, _⟩ := q.r.there c hc
    rw [hold_in hc, ho] at this
    cases this
  · rcases List.mem_append.mp hc with h | h
    · exact q1.fr c h
    · exact (hold_le q.fr).free (q2.fr c h)
  · rcases List.mem_append.mp hc with h | h
    · exact q1.ap c h
    · exact q2.ap c h
theorem e_callK (g : Gd Γ N sc X) (c : GdC Φ k X) {f : Str} {ks : List Str} {kws : List Keyword} (hg : glB sc f = true) (hn : nmB f = true) (hlb : lamB f = false) (hk0 : kwAll kws = true) (hks : kwNames kws = ks) (hlen : ks.length = n) (ha : PK X kws (liftL X.K n wl)) :
    PE X (.Call (.Name f px) [] kws pos) (lift X.K fun ρ Q => ∃ fe, Φ f = some fe ∧ fe.ow = none ∧ ks ∈ fe.kw ∧ wl ρ fun xs ρ1 => ∃ as bs, argTs xs = some as ∧ kperm ks as fe.ps = some bs ∧ fe.fs bs fun z _ => Q z ρ1) := by
  refine ⟨fun pins s σ H R I ⟨F, G, ρ, L, Q, st, ⟨fe, hf, ho, hkw, hw⟩, kt⟩ => ?_⟩
  obtain ⟨addr, fd, hm, hk, gn, hb, hbk⟩ := c.fns f fe hf hlb
  obtain ⟨k1, k2, k3⟩ := kw_all (pos := pos) (kws := kws) (env := X.env) hk0
  refine (pe_gnK gn c.rm g.gd (g.glo hg) hm hk (hbk ks hkw) ha k1 (k2.trans hks) (nm1 hn) (by rw [k3]; rfl)).run pins s σ H R I ?_
  refine ⟨F, G, ρ, L, _, st, hw, fun xs vs ρ' G' H' L' M a q hlx ⟨as, bs, h1, h2, h3⟩ => ?_⟩
  obtain ⟨b, r⟩ := a.st.frozenA q h1
  obtain ⟨vas, e1, e2⟩ := kperm_rel (ors_fa r rfl) h2
  refine ⟨by rw [hlen, ← hlx]; exact q.r.length, vas, e1, fun us ru => ?_, call_data ho b.st (fa_ors e2) h3 (Kont.step kt (a.trans b))⟩
  obtain ⟨uas, e3, e4⟩ := kperm_rel (R := RelV) ru e1
  exact ⟨uas, e3, e4⟩
theorem attrV {i : Nat} {e : Expr} {name : Str} {env : Env} (h : okSE N sc (.var i) e = true) : attributeBase e name env (eval e env) = eval e env := by
  obtain ⟨x, pos, rfl, _⟩ := okSE_var h
  rfl
theorem few1 {env : Env} (pl : plainE r = true) : ((backTo pos (starEach (r :: []) env)).all (fun x => !x.1) && (backToKw pos (keywordEach [] env)).all (fun x => x.1.isSome)
      && decide ((r :: []).length + ([] : List Keyword).length + (if ([] : List Keyword).isEmpty then 0 else 1) < 30)) = true := by
  rw [starEach_plain pl]
  rfl
/-- xs.append(e), as a value -/
theorem m_app {i : Nat} {apos : Pos} (g : Gd Γ N sc X) (hv : okSE N sc (.var i) l = true) (ha : PE X r (lift X.K w)) (pl : plainE r = true) (hline : (apos.endLine == pos.line) = true) :
    PE X (.Call (.Attribute l "append" apos) [r] [] pos) (lift X.K fun ρ Q => (∃ ts, ρ[i]? = some (some (.own ts))) ∧ w ρ fun y ρ1 => ∃ ts, ρ1[i]? = some (some (.own ts)) ∧ ts.length < sizeLine ∧ Q (.d .none) (ρ1.set i (some (.own (ts ++ [y]))))) := by
  have at' := attrV (name := "append") (env := X.env) hv
  obtain ⟨z, p, rfl, h⟩ := okSE_var hv
  refine PE.imp (pe_bm PySem.F.plainAttrs_list PySem.F.slot_list_append PySem.F.type_list_append mt_append (e_name g h) (pa_cons ha pa_nil (starEach_plain pl)) at' (few1 pl) hline (starEach_plain pl)) fun σ H R ⟨F, G, ρ, L, Q, s, ⟨⟨ts, ex⟩, hw⟩, k⟩ => ?_
  obtain ⟨a, vs, M', ev, hA, _⟩ := s.own ex
  refine ⟨.ref a, ev, .inl ⟨rfl, vs, .inl (.inl hA)⟩, F, G, ρ, L, _, s, hw, fun y u ρ1 G1 H1 L1 M b q ⟨ts1, ex1, hz, hq⟩ => ?_⟩
  obtain ⟨a', vs1, M1, ev1, hA1, r1, nd1, sub1, aL, aM, wr⟩ := b.st.own ex1
  rw [ev] at ev1
  cases ev1
  obtain ⟨L2', c, hL⟩ := wr (r1.append q.r) (by
    rw [List.nodup_append]
    exact ⟨nd1, q.nd, fun x hx y hy e => q.ap y hy (e ▸ sub1 x hx)⟩) fun x hx => (List.mem_append.mp hx).imp id fun h => ⟨q.ap x h, q.fr x h⟩
  exact ⟨a, vs1, u, rfl, rfl, hA1, by rw [← r1.length]; exact hz, Kont.data (Kont.step k (b.trans c)) c.st .non hq⟩
theorem m_ext {i : Nat} {apos : Pos} (g : Gd Γ N sc X) (hv : okSE N sc (.var i) l = true) (ha : PE X r (lift X.K w)) (pl : plainE r = true) (hline : (apos.endLine == pos.line) = true) :
    PE X (.Call (.Attribute l "extend" apos) [r] [] pos) (lift X.K fun ρ Q => (∃ ts, ρ[i]? = some (some (.own ts))) ∧ w ρ fun y ρ1 => ∃ ts xs, ρ1[i]? = some (some (.own ts)) ∧ y.frz = some (.list xs) ∧ ts.length + xs.length ≤ sizeLine ∧ Q (.d .none) (ρ1.set i (some (.own (ts ++ xs.map .d))))) := by
  have at' := attrV (name := "extend") (env := X.env) hv
  obtain ⟨z, p, rfl, h⟩ := okSE_var hv
  refine PE.imp (pe_bm PySem.F.plainAttrs_list PySem.F.slot_list_extend PySem.F.type_list_extend mt_extend (e_name g h) (pa_cons ha pa_nil (starEach_plain pl)) at' (few1 pl) hline (starEach_plain pl)) fun σ H R ⟨F, G, ρ, L, Q, s, ⟨⟨ts, ex⟩, hw⟩, k⟩ => ?_
  obtain ⟨a, vs, M', ev, hA, _⟩ := s.own ex
  refine ⟨.ref a, ev, .inl ⟨rfl, vs, .inl (.inl hA)⟩, F, G, ρ, L, _, s, hw, fun y u ρ1 G1 H1 L1 M b q ⟨ts1, xs, ex1, hy, hz, hq⟩ => ?_⟩
  obtain ⟨b2, dq⟩ := b.st.frozen q hy
  obtain ⟨p2, us, rfl, g2, d2⟩ := dq.lst_of
  obtain ⟨a', vs1, M1, ev1, hA1, r1, nd1, sub1, aL, aM, wr⟩ := b2.st.own ex1
  rw [ev] at ev1
  cases ev1
  obtain ⟨L2', c, hL⟩ := wr (r1.cat (ors_data d2)) (by rw [List.append_nil]; exact nd1) fun x hx => .inl (by simpa using hx)
  exact ⟨a, p2, vs1, us, rfl, rfl, hA1, b2.st.gh _ _ g2, by rw [← r1.length, d2.length]; exact hz, Kont.data (Kont.step k ((b.trans b2).trans c)) c.st .non hq⟩
theorem m_exT {i : Nat} {apos : Pos} (g : Gd Γ N sc X) (hv : okSE N sc (.var i) l = true) (ha : PE X r (lift X.K w)) (pl : plainE r = true) (hline : (apos.endLine == pos.line) = true) :
    PE X (.Call (.Attribute l "extend" apos) [r] [] pos) (lift X.K fun ρ Q => (∃ ts, ρ[i]? = some (some (.own ts))) ∧ w ρ fun y ρ1 => ∃ ts xs, ρ1[i]? = some (some (.own ts)) ∧ y = .d (.tuple xs) ∧ ts.length + xs.length ≤ sizeLine ∧ Q (.d .none) (ρ1.set i (some (.own (ts ++ xs.map .d))))) := by
  have at' := attrV (name := "extend") (env := X.env) hv
  obtain ⟨z, p, rfl, h⟩ := okSE_var hv
  refine PE.imp (pe_bm PySem.F.plainAttrs_list PySem.F.slot_list_extend PySem.F.type_list_extend mt_extT (e_name g h) (pa_cons ha pa_nil (starEach_plain pl)) at' (few1 pl) hline (starEach_plain pl)) fun σ H R ⟨F, G, ρ, L, Q, s, ⟨⟨ts, ex⟩, hw⟩, k⟩ => ?_
  obtain ⟨a, vs, M', ev, hA, _⟩ := s.own ex
  refine ⟨.ref a, ev, .inl ⟨rfl, vs, .inl (.inl hA)⟩, F, G, ρ, L, _, s, hw, fun y u ρ1 G1 H1 L1 M b q ⟨ts1, xs, ex1, hy, hz, hq⟩ => ?_⟩
  subst hy
  obtain ⟨p2, us, rfl, g2, d2⟩ := q.r.dq.1.tup_of
  obtain ⟨a', vs1, M1, ev1, hA1, r1, nd1, sub1, aL, aM, wr⟩ := b.st.own ex1
  rw [ev] at ev1
  cases ev1
  obtain ⟨L2', c, hL⟩ := wr (r1.cat (ors_data d2)) (by rw [List.append_nil]; exact nd1) fun x hx => .inl (by simpa using hx)
  exact ⟨a, p2, vs1, us, rfl, rfl, hA1, (g2.grow b.st.gh).sq, by rw [← r1.length, d2.length]; exact hz, Kont.data (Kont.step k (b.trans c)) c.st .non hq⟩
theorem m_pop {i : Nat} {apos : Pos} (g : Gd Γ N sc X) (hv : okSE N sc (.var i) l = true) (ha : PE X r (lift X.K w)) (pl : plainE r = true) (hline : (apos.endLine == pos.line) = true) :
    PE X (.Call (.Attribute l "pop" apos) [r] [] pos) (lift X.K fun ρ Q => (∃ ts, ρ[i]? = some (some (.own ts))) ∧ w ρ fun y ρ1 => ∃ ts k x, y = .d (.int k) ∧ ρ1[i]? = some (some (.own ts)) ∧ 0 ≤ k ∧ k < 2 ^ 63 ∧ ts[k.toNat]? = some x ∧ Q x (ρ1.set i (some (.own (ts.eraseIdx k.toNat))))) := by
  have at' := attrV (name := "pop") (env := X.env) hv
  obtain ⟨z, p, rfl, h⟩ := okSE_var hv
  refine ⟨fun pins s σ H R I ⟨F, G, ρ, L, Q, st, ⟨⟨ts, ex⟩, hw⟩, k⟩ => ?_⟩
  refine (pe_bm PySem.F.plainAttrs_list PySem.F.slot_list_pop PySem.F.type_list_pop mt_popAt (e_name g h) (pa_cons ha pa_nil (starEach_plain pl)) at' (few1 pl) hline (starEach_plain pl)).run pins s σ H R I ?_
  obtain ⟨a, vs, M', ev, hA, _⟩ := st.own ex
  refine ⟨.ref a, ev, .inl ⟨rfl, vs, .inl (.inl hA)⟩, F, G, ρ, L, _, st, hw, fun y u ρ1 G1 H1 L1 M b q ⟨ts1, n, x, ey, ex1, h0, hn, hx, hq⟩ => ?_⟩
  subst ey
  have eu := q.r.dq.1.int_of
  subst eu
  obtain ⟨a', vs1, M1, ev1, hA1, r1, nd1, sub1, aL, aM, wr⟩ := b.st.own ex1
  rw [ev] at ev1
  cases ev1
  obtain ⟨v, P, M2, S, e1, e2, rx, re⟩ := r1.erase hx
  rw [e1] at nd1
  obtain ⟨n1, n2, n3⟩ := nodup_mid nd1
  have in1 : ∀ c ∈ P ++ S, c ∈ M1 := fun c hc => by rw [e1]; exact mem_mid.mpr (.inl hc)
  have in2 : ∀ c ∈ M2, c ∈ M1 := fun c hc => by rw [e1]; exact mem_mid.mpr (.inr hc)
  obtain ⟨L2', c, hL⟩ := wr re n1 fun c hc => .inl (in1 c hc)
  have hlt : n.toNat < vs1.length := (List.getElem?_eq_some_iff.mp e2).1
  have idx : seqIndex? n vs1.length = some n.toNat := by
    unfold seqIndex?
    simp only [show ¬ n < 0 by omega, if_false]
    simp
    omega
  refine ⟨a, vs1, n, n.toNat, v, rfl, rfl, hA1, by omega, hn, idx, e2, ?_⟩
  have bc := b.trans c
  -- the value that comes out
  refine k x v _ G1 (upd H1 a (.lst (vs1.eraseIdx n.toNat))) L2' M2 bc ⟨rx.step (Same.refl _) (fun d hd => upd_ne fun z => aM (in2 a (z ▸ hd))) fun d hd => (rx.there d hd).2, n2, fun d hd => b.st.fr d (sub1 d (in2 d hd)), fun d hd hl => ?_⟩ hq
  rcases hL d hl with ⟨q1, q2⟩ | q1
  · exact n3 d hd (q2 (in2 d hd))
  · exact n3 d hd q1
def notCall : Expr → Bool
  | .Call .. => false
  | _ => true
theorem attrN {e : Expr} {name : Str} {env : Env} (h : notCall e = true) : attributeBase e name env (eval e env) = eval e env := by
  cases e <;> first | rfl | exact nomatch (show false = true from h)
theorem ints_dqs {G : Hp} : ∀ {vs : List V} {ns : List Int}, DqAll G vs (ns.map PyData.int) → vs = ns.map V.int
  | _, [], .nil => rfl
  | _, n :: ns, .cons h t => by
    rw [h.int_of, ints_dqs t]
    rfl
theorem e_index {a b : Expr} {apos cpos : Pos} {w1 w2 : WE} (h : notCall a = true) (ha : PE X a (lift X.K w1)) (hb : PE X b (lift X.K w2)) (pl : plainE b = true) (hl : (apos.endLine == cpos.line) = true) :
    PB X (.Call (.Attribute a "index" apos) [b] [] cpos) (fun ρ Q => w1 ρ fun x ρ1 => ∃ ns : List Int, x = .d (.tuple (ns.map .int)) ∧ w2 ρ1 fun y ρ2 => ∃ k : Int, y = .d (.int k) ∧ k ∈ ns ∧ Q (.d (.int (ns.idxOf k : Nat))) ρ2) := by
  refine .val (PE.imp (pf_met PySem.F.slot_tuple_index PySem.F.type_tuple_index mf_index ha (pa_cons hb pa_nil (starEach_plain pl)) (attrN h) (few1 pl) hl (starEach_plain pl)) fun σ H R ⟨F, G, ρ, L, Q, s, hw, k⟩ => ?_)
  refine ⟨F, G, ρ, L, _, s, hw, fun x v ρ1 G1 H1 L1 M a q ⟨ns, e, hB⟩ => ?_⟩
  subst e
  obtain ⟨p, vs, rfl, g1, d1⟩ := q.r.dq.1.tup_of
  have e1 := ints_dqs d1
  subst e1
  refine ⟨⟨p, _, rfl, g1.grow a.st.gh⟩, F, G1, ρ1, L1, _, a.st, hB, fun y u ρ2 G2 H2 L2 M2 b q2 ⟨z, e, hz, hq⟩ => ?_⟩
  subst e
  exact ⟨p, ns, z, rfl, by rw [q2.r.dq.1.int_of], (g1.grow fun c o h => b.st.gh _ _ (b.gg _ _ h)).sq, hz, (Kont.step k (a.trans b)).data b.st (.int _) hq⟩
theorem e_maxd (g : Gd Γ N sc X) {a b : Expr} {kpos px cpos : Pos} {w1 w2 : WE} (hg : glB sc "max" = true) (ha : PE X a (lift X.K w1)) (hb : PE X b (lift X.K w2)) (pl : plainE a = true) :
    PB X (.Call (.Name "max" px) [a] [⟨some "default", b, kpos⟩] cpos) (fun ρ Q => w1 ρ fun x ρ1 => w2 ρ1 fun y ρ2 => ∃ xs ns n, x.frz = some (.list xs) ∧ intsOf xs = some ns ∧ y = .d (.int n) ∧ Q (.d (.int (maxDf n ns))) ρ2) := by
  have sp := starEach_plain (es := []) (env := X.env) pl
  refine .val (PE.imp (pe_callBK (cr_maxDf g.calm g.un) (g.glo hg) (g.bl _ (by decide)) (by decide +kernel) (pa_cons ha pa_nil sp) (pk_cons hb pk_nil) (by decide) (by decide) (by rw [sp]; rfl) (by rw [sp]; rfl) rfl rfl rfl) fun σ H R h => ?_)
  refine two_of (r := fun x y H Q => ∃ (a : Addr) (ns : List Int) (n : Int), [x] = [V.ref a] ∧ [y] = [V.int n] ∧ SqL X.K H a (ns.map V.int) ∧ Q (.int (maxDf n ns)) H) h fun v u H2 ⟨F, G, ρ, L, x, y, M, N', Q, s, q, q2, ap, ⟨xs, ns, n, hx, hn, ey, hq⟩, k⟩ => ?_
  subst ey
  obtain ⟨p, vs, rfl, hs, d⟩ := (q.r.now s.gh hx).lst_of
  have e := ints_of d hn
  subst e
  exact ⟨p, ns, n, rfl, by rw [q2.r.dq.1.int_of], SqL.of hs, k.data s (.int _) hq⟩
theorem idx_first {ns : List Int} {k : Int} : ∀ {m : Nat} {z : V}, m < ns.idxOf k → (ns.map V.int)[m]? = some z → eqV z (.int k) = false := by
  intro m z h e
  rw [List.getElem?_map] at e
  cases hm : ns[m]? with
  | none => rw [hm] at e; cases e
  | some n =>
    rw [hm] at e
    cases e
    show (n == k) = false
    rw [beq_eq_false_iff_ne]
    obtain ⟨hl, hn⟩ := List.getElem?_eq_some_iff.mp hm
    intro z
    have := List.not_of_lt_findIdx (xs := ns) (p := fun x => x == k) h
    rw [hn, z] at this
    simp at this
theorem e_idxL {i : Nat} {apos : Pos} (g : Gd Γ N sc X) (hv : okSE N sc (.var i) l = true) (ha : PE X r (lift X.K w)) (pl : plainE r = true) (hline : (apos.endLine == pos.line) = true) :
    PE X (.Call (.Attribute l "index" apos) [r] [] pos) (lift X.K fun ρ Q => (∃ ts, ρ[i]? = some (some (.own ts))) ∧ w ρ fun y ρ1 => ∃ ts, ∃ ns : List Int, ∃ k : Int, ρ1[i]? = some (some (.own ts)) ∧ (Tv.own ts).frz = some (.list (ns.map .int)) ∧ y = .d (.int k) ∧ k ∈ ns ∧ Q (.d (.int (ns.idxOf k : Nat))) ρ1) := by
  have at' := attrV (name := "index") (env := X.env) hv
  obtain ⟨z, p, rfl, h⟩ := okSE_var hv
  refine ⟨fun pins s σ H R I ⟨F, G, ρ, L, Q, st, ⟨⟨ts, ex⟩, hw⟩, k⟩ => ?_⟩
  refine (pe_bm PySem.F.plainAttrs_list PySem.F.slot_list_index PySem.F.type_list_index mt_index (e_name g h) (pa_cons ha pa_nil (starEach_plain pl)) at' (few1 pl) hline (starEach_plain pl)).run pins s σ H R I ?_
  obtain ⟨a, vs, M', ev, hA, _⟩ := st.own ex
  refine ⟨.ref a, ev, .inl ⟨rfl, vs, .inl (.inl hA)⟩, F, G, ρ, L, _, st, hw, fun y u ρ1 G1 H1 L1 M b q ⟨ts1, ns, n, ex1, hf, ey, hn, hq⟩ => ?_⟩
  subst ey
  have eu := q.r.dq.1.int_of
  subst eu
  obtain ⟨a', vs1, M1, ev1, hA1, r1, nd1, sub1, aL, aM, wr⟩ := b.st.own ex1
  rw [ev] at ev1
  cases ev1
  obtain ⟨p2, us, e2, hs2, d2⟩ := ((OR.own (K := X.K) hA1 (b.st.sr.there a aL).2 r1).now b.st.gh hf).lst_of
  cases e2
  rw [hA1] at hs2
  cases hs2
  have e3 := ints_dqs d2
  subst e3
  have hlt : ns.idxOf n < ns.length := List.idxOf_lt_length_iff.mpr hn
  refine ⟨a, ns.map V.int, .int n, ns.idxOf n, .int n, rfl, rfl, SqL.of hA1, rfl, by rw [List.all_map]; exact List.all_eq_true.mpr fun _ _ => rfl, ?_, by simp [eqV], fun m z' => idx_first, (Kont.step k b).data b.st (.int _) hq⟩
  rw [List.getElem?_map, List.getElem?_eq_getElem hlt, List.getElem_idxOf hlt]
  rfl
theorem e_idxD {i : Nat} {apos : Pos} (g : Gd Γ N sc X) (hv : okSE N sc (.var i) l = true) (ha : PE X r (lift X.K w)) (pl : plainE r = true) (hline : (apos.endLine == pos.line) = true) :
    PE X (.Call (.Attribute l "index" apos) [r] [] pos) (lift X.K fun ρ Q => (∃ ts, ρ[i]? = some (some (.own ts))) ∧ w ρ fun y ρ1 => ∃ ts, ∃ ds : List PyData, ∃ d : PyData, ∃ j : Nat, ∃ z : PyData, ρ1[i]? = some (some (.own ts)) ∧ (Tv.own ts).frz = some (.list ds) ∧ y = .d d ∧ shal 30 (.list ds) = true ∧ shal 30 d = true ∧ ds[j]? = some z ∧ PyData.eqv z d = true ∧ (∀ (m : Nat) (z' : PyData), m < j → ds[m]? = some z' → PyData.eqv z' d = false) ∧ Q (.d (.int (j : Nat))) ρ1) := by
  have at' := attrV (name := "index") (env := X.env) hv
  obtain ⟨z, p, rfl, h⟩ := okSE_var hv
  refine ⟨fun pins s σ H R I ⟨F, G, ρ, L, Q, st, ⟨⟨ts, ex⟩, hw⟩, k⟩ => ?_⟩
  refine (pe_bm PySem.F.plainAttrs_list PySem.F.slot_list_index PySem.F.type_list_index (mt_indexQ g.un) (e_name g h) (pa_cons ha pa_nil (starEach_plain pl)) at' (few1 pl) hline (starEach_plain pl)).run pins s σ H R I ?_
  obtain ⟨a, vs, M', ev, hA, _⟩ := st.own ex
  refine ⟨.ref a, ev, .inl ⟨rfl, vs, .inl (.inl hA)⟩, F, G, ρ, L, _, st, hw, fun y u ρ1 G1 H1 L1 M b q ⟨ts1, ds, d, j, zz, ex1, hf, ey, s1, s2, hz, he, hno, hq⟩ => ?_⟩
  subst ey
  obtain ⟨a', vs1, M1, ev1, hA1, r1, nd1, sub1, aL, aM, wr⟩ := b.st.own ex1
  rw [ev] at ev1
  cases ev1
  obtain ⟨p2, us, e2, hs2, d2⟩ := ((OR.own (K := X.K) hA1 (b.st.sr.there a aL).2 r1).now b.st.gh hf).lst_of
  cases e2
  rw [hA1] at hs2
  cases hs2
  exact ⟨a, _, u, d, ds, j, zz, rfl, rfl, SqL.of hA1, d2, q.r.dq.1.grow b.st.gh, s1, s2, hz, he, hno, (Kont.step k b).data b.st (.int _) hq⟩
theorem e_idxV {i : Nat} (g : Gd Γ N sc X) (hv : okSE N sc (.var i) l = true) (ha : PE X r (lift X.K w)) (pl : plainE r = true) :
    PE X (.Subscript l r pos) (lift X.K fun ρ Q => (∃ ts, ρ[i]? = some (some (.own ts))) ∧ w ρ fun y ρ1 => ∃ ts k z, ρ1[i]? = some (some (.own ts)) ∧ y = .d (.int k) ∧ (Tv.own ts).item k = some (.d z) ∧ Q (.d z) ρ1) := by
  obtain ⟨z, p, rfl, h⟩ := okSE_var hv
  refine PE.imp (pe_ix (ix_list.or ix_tup) (e_name g h) ha (ix_plain pl)) fun σ H R ⟨F, G, ρ, L, Q, st, ⟨⟨ts, ex⟩, hw⟩, k⟩ => ?_
  obtain ⟨a, vs, M', ev, hA, _⟩ := st.own ex
  refine ⟨.ref a, ev, F, G, ρ, L, _, st, hw, fun y u ρ1 G1 H1 L1 M b q ⟨ts1, n, z, ex1, ey, hi, hq⟩ => ?_⟩
  subst ey
  have eu := q.r.dq.1.int_of
  subst eu
  obtain ⟨a', vs1, M1, ev1, hA1, r1, nd1, sub1, aL, aM, wr⟩ := b.st.own ex1
  rw [ev] at ev1
  cases ev1
  obtain ⟨p2, us, w2, M2, e2, hs2, hat, r3, _⟩ := item_at b.st.gh (OR.own (K := X.K) hA1 (b.st.sr.there a aL).2 r1) hi
  cases e2
  have fin := Kont.data (Kont.step k b) b.st r3.dq.1 hq
  rcases hs2 with hs2 | hs2
  · exact .inl ⟨a, us, n, w2, rfl, rfl, hs2, hat, fin⟩
  · exact .inr ⟨a, us, n, w2, rfl, rfl, hs2, hat, fin⟩
end
section
variable {Γ : Gam} {N : List Str} {sc : Scope} {X : Cx} {pos : Pos}
theorem ors_dqs {K : PySem.W.Frag} {G H : Hp} : ∀ {ds : List PyData} {vs : List V} {M : List Addr}, ORs K G H (ds.map Tv.d) vs M → DqAll G vs ds
  | [], _, _, r => by
    cases r
    exact .nil
  | d :: ds, _, _, r => by
    cases r with
    | cons h t => exact .cons h.dq.1 (ors_dqs t)
theorem wipe_var {σ : L2.St} {vs : List Nat} {i : Nat} (h : i ∉ vs) : (L2.wipe σ vs)[i]? = σ[i]? := L2.wipe_out h
theorem wipe_ne {σ : L2.St} {vs : List Nat} {i : Nat} {x : V} (h : i ∈ vs) : ¬ (L2.wipe σ vs)[i]? = some (some x) := by
  intro z
  induction vs with
  | nil => cases h
  | cons a as ih =>
    have e : L2.wipe σ (a :: as) = (L2.wipe σ as).set a none := rfl
    rw [e, List.getElem?_set] at z
    split at z
    · split at z <;> cases z
    · rename_i hn
      rcases List.mem_cons.mp h with h | h
      · exact hn h.symm
      · exact ih h z
theorem comeO {K : PySem.W.Frag} {F G H H' : Hp} {σ : L2.St} {ρ : Env'} {L : List Addr} {al : Addr} {items : List PyData} {i : Nat} {x : V} (see : ∃ vs2, H al = some (.lst vs2) ∧ DqAll G vs2 items) (s : Sta K F G H ρ σ L) (hi : i < items.length) (y : (Itl K al).yld i H x H') :
    ∃ d G', items[i]? = some d ∧ Aft K F G G' H' ρ σ L ∧ Dq G' x d := by
  obtain ⟨vs, hA, d⟩ := see
  obtain ⟨rfl, y⟩ := y
  obtain ⟨u, h1, h2⟩ := d.get (i := i) (x := items[i]) (by simp [hi])
  have h3 := y vs (SqL.of hA)
  rw [h1] at h3
  cases h3
  exact ⟨items[i], G, by simp [hi], Aft.refl s, h2⟩
/-- a comprehension over a list that a name alone holds, and that stays -/
def wLcO (t : Tg) (i : Nat) (wc : Env' → (Bool → Env' → Prop) → Prop) (we : WE) (vs : List Nat) : WE := fun ρ Q => ∃ ds : List PyData, ρ[i]? = some (some (.own (ds.map .d))) ∧ ∃ I : Nat → List Tv → Env' → Prop, I 0 [] (wipeR ρ vs) ∧
      (∀ k acc ρ2, I k acc ρ2 → ρ2[i]? = some (some (.own (ds.map .d)))) ∧
      (∀ k x acc ρ2, ds[k]? = some x → I k acc ρ2 → wTg t x ρ2 fun ρ3 => wc ρ3 fun b ρ4 =>
        (b = true → we ρ4 fun y ρ5 => acc.length < sizeLine ∧ I (k + 1) (acc ++ [y]) (wipeR ρ5 vs)) ∧ (b = false → I (k + 1) acc (wipeR ρ4 vs))) ∧
      ∀ acc ρ2, I ds.length acc ρ2 → Q (.own acc) (restR ρ ρ2 vs)
theorem lc_mainO {own : List (Str × Nat)} {t : Tg} {i0 : Nat} {wc : Env' → (Bool → Env' → Prop) → Prop} {we : WE} {K : PySem.W.Frag} (hv : ∀ i ∈ tgVs t, i ∈ own.map (·.2)) :
    ∀ σ H R, lift K (wLcO t i0 wc we (own.map (·.2))) σ H R → tLc (iSeq K (tVar i0)) (liftG K (tgVs t) (wTg t)) (liftC K wc) (lift K we) (own.map (·.2)) σ H R := by
  rintro σ H R ⟨F, G, ρ, L, Q, s, hw, kt⟩
  obtain ⟨items, ex0, I, h0, hown, hs, hd⟩ := hw
  obtain ⟨al, vs0, M0, ev0, hA0, _⟩ := s.own ex0
  refine ⟨.ref al, ev0, al, rfl, .inl ⟨⟨vs0, SqL.of hA0⟩, fun D hD => ?_⟩⟩
  have a : Aft K F G G H ρ σ L := Aft.refl s
  have see : ∀ {F2 G2 H2 : Hp} {ρ2 : Env'} {L2' : List Addr} {k : Nat} {acc : List Tv}, Sta K F2 G2 H2 ρ2 (L2.wipe σ (own.map (·.2))) L2' → I k acc ρ2 → ∃ vs2, H2 al = some (.lst vs2) ∧ DqAll G2 vs2 items := fun {F2 G2 H2 ρ2 L2' k acc} s2 hI => by
    obtain ⟨a2, vs2, M2, ev2, hA2, r2, _⟩ := s2.own (hown k acc ρ2 hI)
    have e : a2 = al := by
      by_cases hin : i0 ∈ own.map (·.2)
      · exact absurd ev2 (wipe_ne hin)
      · rw [wipe_var hin] at ev2
        have := ev0.symm.trans ev2
        cases this
        rfl
    subst e
    exact ⟨vs2, hA2, ors_dqs r2⟩
  obtain ⟨L9, w1, sub1⟩ := a.st.wipe (own.map (·.2))
  have hl1 : ρ.length = σ.length := a.st.sr.length
  -- the invariant by the turn
  refine ⟨fun i m H => m = items.length - i ∧ i ≤ items.length ∧ lcP K F G (L2.wipe σ (own.map (·.2))) D I ρ.length i H, ⟨items.length, by simp, Nat.zero_le _, ?_⟩, ?_⟩
  · have a0 := w1.made (o := .lst []) hD
    refine ⟨_, G, L9, [D], [], a0, ⟨.own upd_same (a.st.gh.free hD) .nil, by simp, fun b hb => ?_, fun b hb => ?_⟩, h0, wipeR_length _ _⟩
    · have e : b = D := by simpa using hb
      rw [e]
      exact a.st.fh.free hD
    · have e : b = D := by simpa using hb
      rw [e]
      intro hl
      obtain ⟨⟨x, hx⟩, _⟩ := w1.sr.there D hl
      rw [hD] at hx
      cases hx
  rintro i m H2 ⟨rfl, hi, ρ2, G2, Lb, M, acc, b, q, hI, hlen⟩
  by_cases hlt : i < items.length
  · refine .inr ⟨(by obtain ⟨vs2, hA2, dq2⟩ := see b.st hI; exact ⟨vs2, vs2[i]'(by rw [dq2.length]; exact hlt), SqL.of hA2, by simp⟩), fun H' => lcP K F G (L2.wipe σ (own.map (·.2))) D I ρ.length (i + 1) H', fun H' p' => ⟨items.length - (i + 1), by omega, rfl, hlt, p'⟩, fun x H3 y => ?_⟩
    obtain ⟨d, G3, ed, c, dq⟩ := comeO (see b.st hI) (b.st.hold q) hlt y
    have hw3 := hs i d acc ρ2 ed hI
    refine ⟨Tr.hold F H2 M, G3, ρ2, Lb, d, _, c.st, dq, hw3, fun ρ3 σ3 L3 s3 h3 ag hc3 => ⟨ag.wipe hv |>.trans (wipe_wipe _ _), Tr.hold F H2 M, G3, ρ3, L3, _, s3, hc3, fun bb ρ4 G4 H4 L4 e4 hq4 => ?_⟩⟩
    cases bb with
    | true =>
      have hq5 := hq4.1 rfl
      refine ⟨Tr.hold F H2 M, G4, ρ4, L4, _, e4.st, hq5, fun z u ρ5 G5 H5 L5 M5 e5 q5 ⟨hz, hI5⟩ => ?_⟩
      obtain ⟨c1, qc⟩ := Aft.held q (⟨e5.st, (c.gg.trans e4.gg).trans e5.gg, fun b' h1 h2 => e5.gf b' h1 (e4.gf b' h1 (c.gf b' h1 h2))⟩ : Aft K (Tr.hold F H2 M) G2 G5 H5 ρ5 σ3 L5)
      obtain ⟨q5', ap5⟩ := held_apart q q5
      obtain ⟨vs, hD5, hvl, c2, qn⟩ := Val.push c1.st qc q5' ap5
      refine ⟨vs, hD5, by rw [hvl]; exact hz, ?_⟩
      obtain ⟨L6, s6, sub6⟩ := c2.st.wipe (own.map (·.2))
      have ew : L2.wipe σ3 (own.map (·.2)) = L2.wipe σ (own.map (·.2)) := (ag.wipe hv).trans (wipe_wipe _ _)
      rw [ew] at s6
      refine ⟨_, G5, L6, M ++ M5, acc ++ [z], ⟨s6, b.gg.trans (c1.gg.trans c2.gg), fun b' h1 h2 => c2.gf b' h1 (c1.gf b' h1 (b.gf b' h1 h2))⟩, ⟨qn.r, qn.nd, qn.fr, fun a' ha' hl' => qn.ap a' ha' (sub6 a' hl')⟩, hI5, ?_⟩
      have h5 : ρ5.length = σ3.length := c2.st.sr.length
      rw [wipeR_length, h5, ag.1, L2.wipe_length, hl1]
    | false =>
      have hI4 := hq4.2 rfl
      obtain ⟨c1, qc⟩ := Aft.held q (⟨e4.st, c.gg.trans e4.gg, fun b' h1 h2 => e4.gf b' h1 (c.gf b' h1 h2)⟩ : Aft K (Tr.hold F H2 M) G2 G4 H4 ρ4 σ3 L4)
      obtain ⟨L6, s6, sub6⟩ := c1.st.wipe (own.map (·.2))
      have ew : L2.wipe σ3 (own.map (·.2)) = L2.wipe σ (own.map (·.2)) := (ag.wipe hv).trans (wipe_wipe _ _)
      rw [ew] at s6
      refine ⟨_, G4, L6, M, acc, ⟨s6, b.gg.trans c1.gg, fun b' h1 h2 => c1.gf b' h1 (b.gf b' h1 h2)⟩, ⟨qc.r, qc.nd, qc.fr, fun a' ha' hl' => qc.ap a' ha' (sub6 a' hl')⟩, hI4, ?_⟩
      have h5 : ρ4.length = σ3.length := c1.st.sr.length
      rw [wipeR_length, h5, ag.1, L2.wipe_length, hl1]
  · have e : i = items.length := by omega
    subst e
    refine .inl ⟨(by obtain ⟨vs2, hA2, dq2⟩ := see b.st hI; exact ⟨vs2, SqL.of hA2, Nat.le_of_eq dq2.length⟩), ?_⟩
    obtain ⟨L6, s6, sub6⟩ := Sta.back a.st b.gg b.st hlen (own.map (·.2))
    rw [back_wipe] at s6
    refine kt (.own acc) (.ref D) _ G2 H2 L6 M ⟨s6, a.gg.trans b.gg, fun b' h1 h2 => b.gf b' h1 (a.gf b' h1 h2)⟩ ⟨q.r, q.nd, q.fr, fun a' ha' hl' => q.ap a' ha' (sub6 a' hl')⟩ (hd acc ρ2 hI)
theorem e_lcO (g : Gd Γ N sc X) {elt tg : Expr} {ifs : List Expr} {scope : Scope} {own : List (Str × Nat)} {t : Tg} {i0 : Nat} {z0 : Str} {p0 : Pos} {wc : Env' → (Bool → Env' → Prop) → Prop} {we : WE}
    (hv : ∀ i ∈ tgVs t, i ∈ own.map (·.2))
    (hi0 : (decide (N[i0]? = some z0) && visB sc z0 && nmB z0) = true) (ok : blkC N sc scope own = true) (ht : okTg N (locB scope) t tg = true)
    (hc : ∀ (s : Shared) (H : Hp) (C : Addr) (cl : List (Str × Addr)) (fp : List Addr), PTs (X.blk s H scope (compEnvC scope cl C X.env) fp) ifs (liftC X.K wc))
    (he : ∀ (s : Shared) (H : Hp) (C : Addr) (cl : List (Str × Addr)) (fp : List Addr), PE (X.blk s H scope (compEnvC scope cl C X.env) fp) elt (lift X.K we)) :
    PE X (.ListComp elt [⟨tg, .Name z0 p0, ifs, 0⟩] scope pos) (lift X.K (wLcO t i0 wc we (own.map (·.2)))) := by
  have bk : BlkOk X.N X.env.scope scope own := by rw [g.nm, g.sc]; exact blkOk_by ok
  exact PE.imp (pe_lc (g := liftG X.K (tgVs t) (wTg t)) (tt := liftC X.K wc) (te := lift X.K we) g.calm (by rw [g.nm]; exact g.nd) (pi_seq (e_name g hi0)) bk (fun s H C cl fp => g_tg (X := X.blk s H scope (compEnvC scope cl C X.env) fp) g.calm g.nm g.nd (GdT.blk scope s H C cl fp) t tg ht) hc he (folded_plain (e := .Name z0 p0) rfl)) (lc_mainO hv)
theorem s_lcO (g : Gd Γ N sc X) {elt tg : Expr} {ifs : List Expr} {scope : Scope} {own : List (Str × Nat)} {t : Tg} {i0 : Nat} {z0 : Str} {p0 : Pos} {wc : Env' → (Bool → Env' → Prop) → Prop} {we : WE} {i : Nat} {y : Str} {py spos : Pos}
    (hy : N[i]? = some y) (hyl : sc.names.lookup y = some .local) (hsw : swapsWith (.ListComp elt [⟨tg, .Name z0 p0, ifs, 0⟩] scope pos) (some (.Name y py)) spos.line X.env = pure true)
    (hv : ∀ i ∈ tgVs t, i ∈ own.map (·.2))
    (hi0 : (decide (N[i0]? = some z0) && visB sc z0 && nmB z0) = true) (ok : blkC N sc scope own = true) (ht : okTg N (locB scope) t tg = true)
    (hc : ∀ (s : Shared) (H : Hp) (C : Addr) (cl : List (Str × Addr)) (fp : List Addr), PTs (X.blk s H scope (compEnvC scope cl C X.env) fp) ifs (liftC X.K wc))
    (he : ∀ (s : Shared) (H : Hp) (C : Addr) (cl : List (Str × Addr)) (fp : List Addr), PE (X.blk s H scope (compEnvC scope cl C X.env) fp) elt (lift X.K we)) :
    PS X (.Assign [.Name y py] (.ListComp elt [⟨tg, .Name z0 p0, ifs, 0⟩] scope pos) spos) (tAsg (lift X.K (wLcO t i0 wc we (own.map (·.2)))) (gName i)) := by
  have bk : BlkOk X.N X.env.scope scope own := by rw [g.nm, g.sc]; exact blkOk_by ok
  exact PS.imp (ps_setLc (g := liftG X.K (tgVs t) (wTg t)) (tt := liftC X.K wc) (te := lift X.K we) g.calm (by rw [g.nm]; exact g.nd) (by rw [g.nm]; exact hy) (by rw [g.sc]; exact hyl) hsw (pi_seq (e_name g hi0)) bk (fun s H C cl fp => g_tg (X := X.blk s H scope (compEnvC scope cl C X.env) fp) g.calm g.nm g.nd (GdT.blk scope s H C cl fp) t tg ht) hc he (folded_plain (e := .Name z0 p0) rfl)) fun D σ H q => lc_mainO hv σ H _ q
end
section
variable {Γ : Gam} {Φ : Phi} {k : Nat} {N : List Str} {sc : Scope} {X : Cx} {l r : Expr} {es : List Expr} {pos px : Pos} {wl : WL} {n : Nat}
theorem ors_dq {K : PySem.W.Frag} {G H : Hp} : ∀ {ds : List PyData} {vs : List V}, ORs K G H (ds.map .d) vs [] → DqAll G vs ds := by
  intro ds
  induction ds with
  | nil =>
    intro vs h
    cases h
    exact .nil
  | cons d ds ih =>
    intro vs h
    generalize hL : ([] : List Addr) = L at h
    cases h with
    | cons o t =>
      have e := o.dq
      rw [e.2] at hL
      subst hL
      exact .cons e.1 (ih t)
theorem OR.fnc {K : PySem.W.Frag} {G H : Hp} {lk : LamK} {caps : List (Str × PyData)} {v : V} {M : List Addr} (h : OR K G H (.fn lk caps) v M) : FnC G lk caps v ∧ M = [] := by
  cases h with
  | fn h => exact ⟨h, rfl⟩
theorem fnC_ref {G : Hp} {lk : LamK} {caps : List (Str × PyData)} {v : V} (h : FnC G lk caps v) : ∃ f, v = .ref f := by
  obtain ⟨f, _, _, _, _, e, _⟩ := h
  exact ⟨f, e⟩
theorem fnC_at {pins : List (Addr × Obj)} {σ : L2.St} {G H : Hp} {s : Shared} {lk : LamK} {caps : List (Str × PyData)} {f : Addr} (I : Inv X pins σ H s) (g : Same G H) (h : FnC G lk caps (.ref f)) : PySem.W.FnAt f s.heap := by
  obtain ⟨f', c, q, cl, B, e, h1, _⟩ := h
  cases e
  obtain ⟨od, sl, pm, ctv, ho⟩ := lamO_at I.hok (g _ _ h1)
  exact ⟨_, od, _, sl, ho⟩
/-- a call of what a name holds: a lambda that was handed in -/
theorem e_callV (g : Gd Γ N sc X) (c : GdC Φ k X) {f : Str} {i : Nat} {m : Expr} {ms : List Expr} (hl : lamB f = true) (hv : okSE N sc (.var i) l = true) (ha : PA X (m :: ms) (liftL X.K n wl)) (pl : plainE m = true) (ps : ms.all plainE = true) :
    PE X (.Call l (m :: ms) [] pos) (lift X.K fun ρ Q => (∃ k caps, ρ[i]? = some (some (.fn k caps))) ∧ wl ρ fun xs ρ1 => ∃ k caps fe, ∃ ds : List PyData, ρ1[i]? = some (some (.fn k caps)) ∧ Φ f = some fe ∧ argTs xs = some (ds.map .d) ∧
      fe.fs (.fn k caps :: ds.map .d) fun z _ => ∃ d, z = .d d ∧ Q (.d d) ρ1) := by
  refine ⟨fun pins s σ H R I ⟨F, G, ρ, L, Q, st, ⟨⟨lk0, caps0, hx0⟩, hw⟩, kt⟩ => ?_⟩
  obtain ⟨z, p, rfl, h⟩ := okSE_var hv
  obtain ⟨v0, _, M0, _, eL0, ev, r0, _⟩ := st.sr.at hx0
  obtain ⟨fc0, rfl⟩ := r0.fnc
  obtain ⟨fa, rfl⟩ := fnC_ref fc0
  refine wpAny_Call_Name_kw (thn ((e_name g h).run pins s σ H (fun v H1 => v = .ref fa ∧ H1 = H) I ⟨_, ev, rfl, rfl⟩) fun u s1 ⟨v, H1, I1, r1, q1⟩ => ?_)
  obtain ⟨e1, e2⟩ := q1
  subst e1
  subst e2
  obtain rfl : u = Value.ref fa := r1
  refine PySem.W.callWith_F (first := []) (fnC_at I1 st.gh fc0) (thn (ha.run pos pins s1 σ _ (fun vs H2 => ∃ G2 ρ1 L2 ds lk caps fe, Aft X.K F G G2 H2 ρ1 σ L2 ∧ DqAll G2 vs ds ∧ ρ1[i]? = some (some (.fn lk caps)) ∧ Φ f = some fe ∧ fe.fs (.fn lk caps :: ds.map .d) fun z _ => ∃ d, z = .d d ∧ Q (.d d) ρ1) I1 ?_) fun us s2 ⟨vs, H2, I2, r, G2, ρ1, L2, ds, lk, caps, fe, a, dq, hx, hf, hq⟩ => ?_) (starEach_plain pl) (plain_any ps)
  · refine ⟨F, G, ρ, L, _, st, hw, fun xs vs ρ' G' H' L' M a q _ ⟨lk, caps, fe, ds, h1, h2, h3, h4⟩ => ?_⟩
    obtain ⟨b, r⟩ := a.st.frozenA q h3
    exact ⟨_, ρ', L', ds, lk, caps, fe, a.trans b, ors_dq r, h1, h2, h4⟩
  · obtain ⟨v1, _, M1, _, eL1, ev1, r1, _⟩ := a.st.sr.at hx
    rw [ev] at ev1
    cases ev1
    obtain ⟨fc, rfl⟩ := r1.fnc
    refine ⟨fnC_at I2 a.st.gh fc, ?_⟩
    show wpAny _ _ (call (.ref fa) us) _ _ _
    have pr := c.lms f fe hf hl lk caps ds _ hq X.A X.stack s2 H2 G2 (.ref fa) vs us R c.rm g.gd I2.env0 a.st.tb a.st.gh fc dq r a.st.ng (fun z d rest H' G' ⟨d', ed, hd⟩ g1 g2 dz sm tb fresh ng => ?_)
    · obtain ⟨f', ef, run⟩ := pr
      cases ef
      refine wpAny_call (codeAny_mono run fun rr s' hq' => ?_)
      obtain ⟨u, rfl, ce⟩ := gn_end hq'
      exact I2.after ce
    · cases ed
      have ob : ∀ b ∈ L2, H' b = H2 b ∧ G' b = none := fun b hb => by
        obtain ⟨⟨o, ho⟩, hn⟩ := a.st.sr.there b hb
        obtain ⟨ws, hl, hw⟩ := a.st.sr.list b hb
        exact ⟨by rw [sm b _ hl hw.ne_tbl, hl], fresh b (by rw [ho]; exact fun z => by cases z) hn⟩
      refine kt (.d d) z ρ1 G' H' L2 [] ⟨⟨a.st.sr.step g1 (fun b hb => (ob b hb).1) fun b hb => (ob b hb).2, a.st.nd, a.st.fr, fun b o e => sm b o (a.st.fh b o e) (fun ps z => a.st.nt b ps (by rw [e, z])), g2, tb, a.st.nt, ng⟩, a.gg.trans g1, fun b h1 h2 => ?_⟩ (Val.pure dz) hd
      refine fresh b ?_ (a.gf b h1 h2)
      exact ne_of_some a.st.fh h1
end
end Tr
set_option Elab.async false
set_option linter.all false
set_option maxRecDepth 100000
set_option maxHeartbeats 2000000
namespace Tr
open PySem PySem.Spec PyProof.Rows L2
def kept (kp : Option Nat) (σ σ' : L2.St) : Prop := ∀ i, kp = some i → σ'[i]? = σ[i]?
theorem kept.refl {kp : Option Nat} {σ : L2.St} : kept kp σ σ := fun _ _ => rfl
theorem kept.trans {kp : Option Nat} {σ σ' σ'' : L2.St} (h : kept kp σ σ') (h' : kept kp σ' σ'') : kept kp σ σ'' := fun i e => (h' i e).trans (h i e)
theorem kept.set {kp : Option Nat} {σ : L2.St} {i : Nat} {o : Option V} (h : kp ≠ some i) : kept kp σ (σ.set i o) := fun j e => List.getElem?_set_ne fun z => h (e.trans (congrArg some z.symm))
structure KS (K : PySem.W.Frag) (kp : Option Nat) (F G : Hp) (σ : L2.St) (D' : DE) (D : Ends) : Prop where
  nx : ∀ ρ' σ' G' H' L', Aft K F G G' H' ρ' σ' L' → kept kp σ σ' → D'.nx ρ' → D.nx σ' H'
  bk : ∀ ρ' σ' G' H' L', Aft K F G G' H' ρ' σ' L' → kept kp σ σ' → D'.bk ρ' → D.bk σ' H'
  ct : ∀ ρ' σ' G' H' L', Aft K F G G' H' ρ' σ' L' → kept kp σ σ' → D'.ct ρ' → D.ct σ' H'
  rt : ∀ x v ρ' σ' G' H' L' M, Aft K F G G' H' ρ' σ' L' → kept kp σ σ' → Val K F G' H' L' x v M → D'.rt x ρ' → D.rt v H'
def liftW (K : PySem.W.Frag) (kp : Option Nat) (w : WS) : TS := fun D σ H => ∃ F G ρ L D', Sta K F G H ρ σ L ∧ w D' ρ ∧ KS K kp F G σ D' D
section
variable {K : PySem.W.Frag} {kp : Option Nat} {F G G' H H' : Hp} {σ σ' : L2.St} {ρ ρ' : Env'} {L L' : List Addr} {D' : DE} {D : Ends}
theorem Aft.trans' {G1 G2 H1 H2 : Hp} {ρ1 ρ2 : Env'} {σ2 : L2.St} {L1 L2 : List Addr} (a : Aft K F G G1 H1 ρ1 σ L1) (b : Aft K F G1 G2 H2 ρ2 σ2 L2) : Aft K F G G2 H2 ρ2 σ2 L2 :=
  ⟨b.st, a.gg.trans b.gg, fun x h1 h2 => b.gf x h1 (a.gf x h1 h2)⟩
theorem KS.step (k : KS K kp F G σ D' D) (a : Aft K F G G' H' ρ' σ' L') (hk : kept kp σ σ') : KS K kp F G' σ' D' D where
  nx := fun ρ2 σ2 G2 H2 L2 b h q => k.nx ρ2 σ2 G2 H2 L2 (Aft.trans' a b) (hk.trans h) q
  bk := fun ρ2 σ2 G2 H2 L2 b h q => k.bk ρ2 σ2 G2 H2 L2 (Aft.trans' a b) (hk.trans h) q
  ct := fun ρ2 σ2 G2 H2 L2 b h q => k.ct ρ2 σ2 G2 H2 L2 (Aft.trans' a b) (hk.trans h) q
  rt := fun x v ρ2 σ2 G2 H2 L2 M b h q r => k.rt x v ρ2 σ2 G2 H2 L2 M (Aft.trans' a b) (hk.trans h) q r
theorem Sta.aft {ρ' : Env'} {σ' : L2.St} (s : Sta K F G H ρ' σ' L) : Aft K F G G H ρ' σ' L := ⟨s, Same.refl _, fun _ _ h => h⟩
/-- names forgotten -/
theorem Sta.forget (s : Sta K F G H ρ σ L) : ∀ er : List Nat, ∃ L', Sta K F G H (wipeR ρ er) σ L'
  | [] => ⟨L, s⟩
  | v :: er => by
    obtain ⟨L1, s1⟩ := Sta.forget s er
    obtain ⟨L2', s2, _⟩ := s1.drop v (σ[v]?).join
    refine ⟨L2', ?_⟩
    have : σ.set v (σ[v]?).join = σ := by
      cases e : σ[v]? with
      | none => exact set_out (by have := List.getElem?_eq_none_iff.mp e; omega) _
      | some o =>
        refine set_same ?_
        rw [e]
        rfl
    rw [this] at s2
    exact s2
end
/-- a statement's reading over trees -/
abbrev PSt (kp : Option Nat) (X : Cx) (st : Stmt) (w : WS) : Prop := PS X st (liftW X.K kp w)
abbrev PSts (kp : Option Nat) (X : Cx) (st : List Stmt) (w : WS) : Prop := PSs X st (liftW X.K kp w)
section
variable {Γ : Gam} {N : List Str} {sc : Scope} {X : Cx} {T : Str → Bool} {kp : Option Nat} {l r tg e : Expr} {es : List Expr} {pos px : Pos} {w w1 w2 : WE} {wl : WL} {n : Nat}
def notComp : Expr → Bool
  | .ListComp .. => false
  | .SetComp .. => false
  | .DictComp .. => false
  | _ => true
theorem sw_not {t : Option Expr} {line : Nat} {env : Env} (h : notComp e = true) : swapsWith e t line env = pure false := by
  cases e <;> first | rfl | exact nomatch (show false = true from h)
theorem tAsg_set {i : Nat} {D : Ends} {σ : L2.St} {H : Hp} {K : PySem.W.Frag} (hk : kp ≠ some i) (h : liftW K kp (fun D ρ => w ρ fun x ρ1 => i < ρ1.length ∧ D.nx (ρ1.set i (some x))) D σ H) : tAsg (lift K w) (gName i) D σ H := by
  obtain ⟨F, G, ρ, L, D', s, hw, k⟩ := h
  refine ⟨F, G, ρ, L, _, s, hw, fun x v ρ1 G1 H1 L1 M a q ⟨hi, hq⟩ => ?_⟩
  obtain ⟨L2', s2, _⟩ := a.st.put hi q
  exact k.nx _ _ G1 H1 L2' (Aft.trans' a s2.aft) (kept.set hk) hq
theorem s_set (g : Gd Γ N sc X) (t : GdT T X) {i : Nat} {x : Str} {p : Pos} (hi : N[i]? = some x) (hT : T x = true) (hk : kp ≠ some i) (he : PE X e (lift X.K w)) (hs : swapsWith e (some (.Name x p)) pos.line X.env = pure false) :
    PSt kp X (.Assign [.Name x p] e pos) (fun D ρ => w ρ fun x ρ1 => i < ρ1.length ∧ D.nx (ρ1.set i (some x))) :=
  PS.imp (ps_set (by rw [g.nm]; exact g.nd) (by rw [g.nm]; exact hi) (t.loc x hT) he hs (t.fn x hT)) fun D σ H q => tAsg_set hk q
def notTup : Expr → Bool
  | .Tuple .. => false
  | _ => true
theorem st_not {tgs : List Expr} {env : Env} (h : notTup e = true) : swappedStores tgs e env = pure none := by
  have z : ∀ (a b : List Expr) (f : List Expr × List Expr → Sem (Option (List Str))), True := fun _ _ _ => trivial
  unfold swappedStores
  cases e <;> first | exact nomatch (show false = true from h) | (cases tgs with
    | nil => rfl
    | cons a b => cases b with
      | nil => cases a <;> rfl
      | cons c d => cases a <;> rfl)
theorem sole_tup {ts : List Expr} {k : Nat} {p : Pos} {line : Nat} {env : Env} : swapsWithSole [.Tuple ts k p] e line env = pure false := by
  cases e <;> rfl
theorem s_unp (g : Gd Γ N sc X) (t : GdT T X) {tt : TgL} {ts : List Expr} {k : Nat} {p : Pos} (ht : okTg N T (.tup tt) (.Tuple ts k p) = true) (hk : ∀ i, kp = some i → i ∉ tgVs (.tup tt)) (he : PE X e (lift X.K w)) (hn : notTup e = true) :
    PSt kp X (.Assign [.Tuple ts k p] e pos) (fun D ρ => w ρ fun x ρ1 => ∃ d, x.frz = some d ∧ wTg (.tup tt) d ρ1 D.nx) := by
  refine PS.imp (ps_asg he (g_tg g.calm g.nm g.nd t (.tup tt) _ ht) sole_tup (st_not hn) rfl) fun D σ H ⟨F, G, ρ, L, D', s, hw, k⟩ => ?_
  refine ⟨F, G, ρ, L, _, s, hw, fun x v ρ1 G1 H1 L1 M a q ⟨d, hd, hq⟩ => ?_⟩
  obtain ⟨b, dq⟩ := a.st.frozen q hd
  refine ⟨F, _, ρ1, L1, d, _, b.st, dq, hq, fun ρ2 σ2 L2 s2 _ ag hn => ?_⟩
  exact k.nx _ _ _ H1 L2 (Aft.trans' (a.trans b) s2.aft) (fun i hi => ag.2 i (hk i hi)) hn
theorem kept_foldl (kp : Option Nat) : ∀ (is : List Nat) (vs : List V) (σ : L2.St), (∀ i, kp = some i → i ∉ is) → kept kp σ ((is.zip vs).foldl (fun r p => r.set p.1 (some p.2)) σ)
  | [], _, _, _ => kept.refl
  | i :: is, [], _, _ => kept.refl
  | i :: is, v :: vs, σ, h => by
    show kept kp σ ((is.zip vs).foldl _ (σ.set i (some v)))
    exact (kept.set fun e => h i e (by simp)).trans (kept_foldl kp is vs _ fun j e hj => h j e (by simp [hj]))
/-- several values put in places -/
theorem Sta.puts {K : PySem.W.Frag} {F G H : Hp} : ∀ (is : List Nat) {xs : List Tv} {vs : List V} {σ : L2.St} {ρ : Env'} {L M : List Addr}, Sta K F G H ρ σ L → ValL K F G H L xs vs M → (∀ i ∈ is, i < ρ.length) → xs.length = is.length →
    ∃ L', Sta K F G H ((is.zip xs).foldl (fun r p => r.set p.1 (some p.2)) ρ) ((is.zip vs).foldl (fun r p => r.set p.1 (some p.2)) σ) L'
  | [], xs, vs, σ, ρ, L, M, s, _, _, _ => ⟨L, s⟩
  | i :: is, xs, vs, σ, ρ, L, M, s, ⟨r, nd, fr, ap⟩, hi, hl => by
    cases r with
    | nil => simp at hl
    | cons o t =>
      rename_i x v xs vs M1 M2
      have nd' := List.nodup_append.mp nd
      obtain ⟨L', s', sub⟩ := s.put (hi i (by simp)) ⟨o, nd'.1, fun a ha => fr a (by simp [ha]), fun a ha => ap a (by simp [ha])⟩
      exact Sta.puts is s' ⟨t, nd'.2.1, fun a ha => fr a (by simp [ha]), fun a ha hl => by
        rcases sub a hl with h | h
        · exact ap a (by simp [ha]) h
        · exact nd'.2.2 a h a ha rfl⟩ (fun j hj => by simpa using hi j (by simp [hj])) (by simpa using hl)
def wPar (is : List Nat) (wl : WL) : WS := fun D ρ => wl ρ fun xs ρ1 => xs.length = is.length ∧ is.Nodup ∧ (∀ i ∈ is, i < ρ1.length) ∧ D.nx ((is.zip xs).foldl (fun r p => r.set p.1 (some p.2)) ρ1)
theorem par_main {K : PySem.W.Frag} {is : List Nat} (hk : ∀ i, kp = some i → i ∉ is) {D : Ends} {σ : L2.St} {H : Hp} (h : liftW K kp (wPar is wl) D σ H) :
    liftL K n wl σ H fun vs H1 => vs.length = is.length ∧ is.Nodup ∧ D.nx ((is.zip vs).foldl (fun r p => r.set p.1 (some p.2)) σ) H1 ∧ ∀ p o, H1 p = none → D.nx ((is.zip vs).foldl (fun r p => r.set p.1 (some p.2)) σ) (upd H1 p o) := by
  obtain ⟨F, G, ρ, L, D', s, hw, k⟩ := h
  refine ⟨F, G, ρ, L, _, s, hw, fun xs vs ρ1 G1 H1 L1 M a q hn ⟨hl, nd, hi, hq⟩ => ⟨by rw [← q.r.length, hl], nd, ?_, fun p o hp => ?_⟩⟩
  · obtain ⟨L2', s2⟩ := Sta.puts is a.st q hi hl
    exact k.nx _ _ G1 H1 L2' (Aft.trans' a s2.aft) (kept_foldl kp is vs σ hk) hq
  · obtain ⟨L2', s2⟩ := Sta.puts is a.st q hi hl
    have b := s2.made (o := o) hp
    exact k.nx _ _ G1 _ L2' (Aft.trans' (Aft.trans' a s2.aft) b) (kept_foldl kp is vs σ hk) hq
def okNames (N : List Str) (T : Str → Bool) : List Nat → List Expr → Bool
  | [], es => es.isEmpty
  | i :: is, es => (match es with | .Name x _ :: es => decide (N[i]? = some x) && T x && okNames N T is es | _ => false)
theorem g_names (g : Gd Γ N sc X) (t : GdT T X) : ∀ (is : List Nat) (ts : List Expr), okNames N T is ts = true → (assignEach ts X.env).length = is.length ∧ (assignEach ts X.env).findIdx? (·.1) = none ∧ is.length = ts.length ∧
    PGs X ts (fun vs σ H Q => vs.length = is.length ∧ Q ((is.zip vs).foldl (fun r p => r.set p.1 (some p.2)) σ) H)
  | [], ts, h => by
    have h : ts.isEmpty = true := h
    rw [List.isEmpty_iff] at h
    subst h
    exact ⟨rfl, rfl, rfl, ⟨fun pins s σ H vs us Q I r ⟨e, q⟩ => pgs_nil.run pins s σ H vs us Q I r ⟨List.eq_nil_of_length_eq_zero e, q⟩⟩⟩
  | i :: is, ts, h => by
    match ts, h with
    | .Name x p :: ts, h =>
      have h : (decide (N[i]? = some x) && T x && okNames N T is ts) = true := h
      simp only [Bool.and_eq_true, decide_eq_true_eq] at h
      obtain ⟨h1, h2, h3, h4⟩ := g_names g t is ts h.2
      refine ⟨by show (assignEach ts X.env).length + 1 = _; rw [h1]; rfl, ?_, by simp [h3], ?_⟩
      · show ((false, assign (.Name x p) X.env) :: assignEach ts X.env).findIdx? (·.1) = none
        rw [List.findIdx?_cons]
        simp [h2]
      · have pg : PG X (.Name x p) (gName i) := pg_name (by rw [g.nm]; exact g.nd) (by rw [g.nm]; exact h.1.1) (t.loc x h.1.2) (t.fn x h.1.2)
        refine ⟨fun pins s σ H vs us Q I r ⟨e, q⟩ => (pgs_cons pg h4 rfl).run pins s σ H vs us Q I r ?_⟩
        match vs, e, q with
        | v :: vs, e, q => exact ⟨v, vs, rfl, by simpa using e, q⟩
/-- by way of a tuple -/
theorem s_par (g : Gd Γ N sc X) (t : GdT T X) {is : List Nat} {ts : List Expr} {k k2 : Nat} {p p2 : Pos} (ht : okNames N T is ts = true) (hk : ∀ i, kp = some i → i ∉ is) (ha : PA X es (liftL X.K n wl)) (hn : n ≤ 1000) (hl : is.length = n)
    (hw : swappedStores [.Tuple ts k p] (.Tuple es k2 p2) X.env = pure none) : PSt kp X (.Assign [.Tuple ts k p] (.Tuple es k2 p2) pos) (wPar is wl) := by
  obtain ⟨h1, h2, h3, h4⟩ := g_names g t is ts ht
  refine PS.imp (ps_asg (pe_tup ha) (pg_tup g.calm h4 h1 h2) sole_tup hw rfl) fun D σ H q => ?_
  obtain ⟨F, G, ρ, L, Q, s, hw, k⟩ := par_main (n := n) hk q
  refine ⟨F, G, ρ, L, Q, s, hw, fun xs vs ρ1 G1 H1 L1 M a q hn hq => ?_⟩
  obtain ⟨e1, e2, e3, e4⟩ := k xs vs ρ1 G1 H1 L1 M a q hn hq
  exact ⟨by rw [e1, hl]; exact small_n (by omega), fun pp hp => ⟨pp, vs, rfl, SqT.of upd_same, e1, e1, e4 pp _ hp⟩⟩
theorem names2 {is : List Nat} {ts : List Expr} (h : okNames N T is ts = true) (hl : ts.length = 2) : ∃ i j x y px py, is = [i, j] ∧ ts = [.Name x px, .Name y py] ∧ N[i]? = some x ∧ N[j]? = some y := by
  match is, ts, h, hl with
  | [], ts, h, hl => exact absurd hl (by rw [List.isEmpty_iff.mp (show ts.isEmpty = true from h)]; simp)
  | i :: is, .Name x px :: ts, h, hl =>
    have h : (decide (N[i]? = some x) && T x && okNames N T is ts) = true := h
    simp only [Bool.and_eq_true, decide_eq_true_eq] at h
    match is, ts, h, hl with
    | [], ts, h, hl => exact absurd hl (by rw [List.isEmpty_iff.mp (show ts.isEmpty = true from h.2)]; simp)
    | j :: is, .Name y py :: ts, h, hl =>
      have h2 : (decide (N[j]? = some y) && T y && okNames N T is ts) = true := h.2
      simp only [Bool.and_eq_true, decide_eq_true_eq] at h2
      have e : ts = [] := List.eq_nil_of_length_eq_zero (by simpa using hl)
      subst e
      cases is with
      | nil => exact ⟨i, j, x, y, px, py, rfl, rfl, h.1.1, h2.1.1⟩
      | cons a b => exact nomatch (show false = true from h2.2)
theorem names3 {is : List Nat} {ts : List Expr} (h : okNames N T is ts = true) (hl : ts.length = 3) : ∃ i j k x y z px py pz, is = [i, j, k] ∧ ts = [.Name x px, .Name y py, .Name z pz] ∧ N[i]? = some x ∧ N[j]? = some y ∧ N[k]? = some z := by
  match is, ts, h, hl with
  | [], ts, h, hl => exact absurd hl (by rw [List.isEmpty_iff.mp (show ts.isEmpty = true from h)]; simp)
  | i :: is, .Name x px :: ts, h, hl =>
    have h : (decide (N[i]? = some x) && T x && okNames N T is ts) = true := h
    simp only [Bool.and_eq_true, decide_eq_true_eq] at h
    obtain ⟨j, k, y, z, py, pz, rfl, rfl, h2, h3⟩ := names2 h.2 (by simpa using hl)
    exact ⟨i, j, k, x, y, z, px, py, pz, rfl, rfl, h.1.1, h2, h3⟩
theorem nodup_ne {N : List Str} (nd : N.Nodup) {i j : Nat} {x y : Str} (h : x ≠ y) (hi : N[i]? = some x) (hj : N[j]? = some y) : i ≠ j := fun e => h (by subst e; rw [hi] at hj; exact Option.some.inj hj)
def nameOf : Expr → Option Str
  | .Name x _ => some x
  | _ => none
/-- stored from the right, two -/
theorem s_par2 (g : Gd Γ N sc X) {is : List Nat} {ts : List Expr} {k k2 : Nat} {p p2 : Pos} (ht : okNames N T is ts = true) (hk : ∀ i, kp = some i → i ∉ is) (ha : PA X es (liftL X.K n wl)) (hes : es.length = ts.length) {xs : List Str}
    (hx : ∀ x ∈ xs, sc.names.lookup x = some .local) (nx : xs.Nodup) (hxs : ts.filterMap nameOf = xs) (hlen : ts.length = 2 ∨ ts.length = 3)
    (hw : swappedStores [.Tuple ts k p] (.Tuple es k2 p2) X.env = pure (some xs)) : PSt kp X (.Assign [.Tuple ts k p] (.Tuple es k2 p2) pos) (wPar is wl) := by
  rcases hlen with hl | hl
  · obtain ⟨i, j, x, y, px, py, rfl, rfl, hi, hj⟩ := names2 ht hl
    have e : [x, y] = xs := hxs
    subst e
    match es, hes with
    | [a, b], _ =>
      have hxy : x ≠ y := by simpa using nx
      refine PS.imp (ps_par g.calm (by rw [g.nm]; exact g.nd) (by rw [g.nm]; exact hi) (by rw [g.nm]; exact hj) (nodup_ne g.nd hxy hi hj) (by rw [g.sc]; exact hx x (by simp)) (by rw [g.sc]; exact hx y (by simp)) ha hw sole_tup) fun D σ H q => ?_
      obtain ⟨F, G, ρ, L, Q, s, hw, k⟩ := par_main (n := n) hk q
      refine ⟨F, G, ρ, L, Q, s, hw, fun xs vs ρ1 G1 H1 L1 M a q hn hq => ?_⟩
      obtain ⟨e1, e2, e3, e4⟩ := k xs vs ρ1 G1 H1 L1 M a q hn hq
      match vs, e1, e3 with
      | [v, u], _, e3 => exact ⟨v, u, rfl, e3⟩
  · obtain ⟨i, j, l, x, y, z, px, py, pz, rfl, rfl, hi, hj, hl'⟩ := names3 ht hl
    have e : [x, y, z] = xs := hxs
    subst e
    match es, hes with
    | [a, b, c], _ =>
      have hne : (x ≠ y ∧ x ≠ z) ∧ y ≠ z := by simpa using nx
      refine PS.imp (ps_par3 g.calm (by rw [g.nm]; exact g.nd) (by rw [g.nm]; exact hi) (by rw [g.nm]; exact hj) (by rw [g.nm]; exact hl') (nodup_ne g.nd hne.1.1 hi hj) (nodup_ne g.nd hne.1.2 hi hl') (nodup_ne g.nd hne.2 hj hl') (by rw [g.sc]; exact hx x (by simp)) (by rw [g.sc]; exact hx y (by simp)) (by rw [g.sc]; exact hx z (by simp)) ha hw sole_tup) fun D σ H q => ?_
      obtain ⟨F, G, ρ, L, Q, s, hw, k⟩ := par_main (n := n) hk q
      refine ⟨F, G, ρ, L, Q, s, hw, fun xs vs ρ1 G1 H1 L1 M a q hn hq => ?_⟩
      obtain ⟨e1, e2, e3, e4⟩ := k xs vs ρ1 G1 H1 L1 M a q hn hq
      match vs, e1, e3 with
      | [v, u, w], _, e3 => exact ⟨v, u, w, rfl, e3⟩
/-- what the machine does with a, b = x, y; none: it is not told -/
def swN (sc : Scope) (ts vs : List Expr) : Option (Option (List Str)) :=
  if (!(ts.length == 2 || ts.length == 3) || vs.length != ts.length) = true then some none
  else if (vs.any fun | .Starred .. => true | _ => false) = true then some none
  else
    let line := (ts.head?.map (·.pos.line)).getD 0
    let names := ts.filterMap fun
      | .Name id pos => if (sc.names.lookup id == some .local && pos.line == line) = true then some id else none
      | _ => none
    if (names.length != ts.length || names.eraseDups.length != names.length) = true then some none
    else if vs.all (foldedForSure 8) = true then some none
    else if vs.all (constantsAlone 8) = true then none
    else some (some names)
theorem itp {α : Type} {c : Prop} [Decidable c] {a b z : α} (h : c) (e : a = z) : (if c then a else b) = z := by rw [if_pos h]; exact e
theorem itn {α : Type} {c : Prop} [Decidable c] {a b z : α} (h : ¬ c) (e : b = z) : (if c then a else b) = z := by rw [if_neg h]; exact e
theorem sw_eq {sc : Scope} {env : Env} {ts vs : List Expr} {k k2 : Nat} {p p2 : Pos} {o : Option (List Str)} (hs : env.scope = sc) (hk : sc.kind = .function) (h : swN sc ts vs = some o) : swappedStores [.Tuple ts k p] (.Tuple vs k2 p2) env = pure o := by
  have hb : env.blockKind = .function := by unfold Env.blockKind; rw [hs, hk]; rfl
  have hkd : ∀ id, env.kindOf id = sc.names.lookup id := fun id => by rw [← hs]; rfl
  unfold swappedStores
  simp only [hb, hkd]
  unfold swN at h
  have hne : ((ScopeKind.function != ScopeKind.function) = false) := by decide
  rw [hne, Bool.or_false]
  split at h
  · rename_i c1
    cases h
    exact itp c1 rfl
  · rename_i c1
    refine itn c1 ?_
    split at h
    · rename_i c2
      cases h
      exact itp c2 rfl
    · rename_i c2
      refine itn c2 ?_
      dsimp only at h
      split at h
      · rename_i c3
        cases h
        exact itp c3 rfl
      · rename_i c3
        refine itn c3 ?_
        split at h
        · rename_i c4
          cases h
          exact itp c4 rfl
        · rename_i c4
          refine itn c4 ?_
          split at h
          · cases h
          · rename_i c5
            cases h
            exact itn c5 rfl
theorem sub_assign {o i : Expr} {env : Env} (pl : plainE i = true) : ∀ v, assign (.Subscript o i pos) env v = (do
      let ov ← holding [v] (eval o env)
      let iv ← holding [v, ov] (eval i env)
      standAt pos
      holding [v, ov, iv] (setItem ov iv v)
      release [v, ov, iv] []) := by
  intro v
  cases i <;> first | rfl | exact nomatch (show false = true from pl)
theorem sole_sub {o i : Expr} {p : Pos} {line : Nat} {env : Env} : swapsWithSole [.Subscript o i p] e line env = pure false := by
  cases e <;> rfl
theorem st_sub {o i : Expr} {p : Pos} {env : Env} : swappedStores [.Subscript o i p] e env = pure none := by
  unfold swappedStores
  cases e <;> rfl
theorem ors_set {K : PySem.W.Frag} {F G H : Hp} {L M M2 : List Addr} {ts : List Tv} {vs : List V} {j : Nat} {y : Tv} {u : V} (r : ORs K G H ts vs M) (nd : M.Nodup) (hj : j < ts.length) (q : Val K F G H L y u M2) (sub : ∀ b ∈ M, b ∈ L) :
    ∃ M'', ORs K G H (ts.set j y) (vs.set j u) M'' ∧ M''.Nodup ∧ ∀ b ∈ M'', b ∈ M ∨ (b ∉ L ∧ F b = none) := by
  obtain ⟨v, P, M1, S, e1, e2, r1, put⟩ := r.at (List.getElem?_eq_getElem hj)
  rw [e1] at nd
  obtain ⟨n1, n2, n3⟩ := nodup_mid nd
  refine ⟨_, put (H' := H) (fun _ _ => rfl) q.r, mid_nodup n1 q.nd fun a ha hp => q.ap a ha (sub a (by rw [e1]; exact mem_mid.mpr (.inl hp))), fun b hb => ?_⟩
  rcases mem_mid.mp hb with h | h
  · exact .inl (by rw [e1]; exact mem_mid.mpr (.inl h))
  · exact .inr ⟨q.ap b h, q.fr b h⟩
theorem s_ix1 (g : Gd Γ N sc X) {i : Nat} {k : SE} {a b : Expr} {p : Pos} (ha : okSE N sc (.var i) a = true) (hb : okSE N sc k b = true) (pb : plainE b = true) (he : PE X e (lift X.K w)) :
    PSt kp X (.Assign [.Subscript a b p] e pos) (fun D ρ => w ρ fun y ρ1 => ∃ ts n j, ρ1[i]? = some (some (.own ts)) ∧ sv Γ ρ1 k = some (.d (.int n)) ∧ ixN ts.length n = some j ∧ D.nx (ρ1.set i (some (.own (ts.set j y))))) := by
  have hbb := se_ok g k b hb
  obtain ⟨z, pz, rfl, h⟩ := okSE_var ha
  refine PS.imp (ps_asg he (pg_sub (e_name g h) hbb set_list (sub_assign pb)) sole_sub st_sub rfl) fun D σ H ⟨F, G, ρ, L, D', s, hw, kt⟩ => ?_
  refine ⟨F, G, ρ, L, _, s, hw, fun y u ρ1 G1 H1 L1 M a q ⟨ts, n, j, ex, hk, hj, hq⟩ => ?_⟩
  obtain ⟨ad, vs, M', ev, hA, r, nd, sub, aL, aM, wr⟩ := a.st.own ex
  have hjl : j < ts.length := (ixN_seq hj).2.1
  obtain ⟨M'', r', nd', hM⟩ := ors_set r nd hjl q sub
  obtain ⟨L2', c, _⟩ := wr r' nd' hM
  refine ⟨.ref ad, ev, F, G1, ρ1, L1, _, a.st, hk, fun v M3 r3 _ => ⟨ad, vs, n, j, rfl, r3.dq.1.int_of, hA, by rw [← r.length]; exact hj, ?_⟩⟩
  exact kt.nx _ _ G1 _ L2' (Aft.trans' a c) kept.refl hq
theorem s_ix2 (g : Gd Γ N sc X) {i : Nat} {k1 k : SE} {a b0 b : Expr} {p p0 : Pos} (ha : okSE N sc (.var i) a = true) (hb0 : okSE N sc k1 b0 = true) (pb0 : plainE b0 = true) (hb : okSE N sc k b = true) (pb : plainE b = true) (he : PE X e (lift X.K w)) :
    PSt kp X (.Assign [.Subscript (.Subscript a b0 p0) b p] e pos) (fun D ρ => w ρ fun y ρ1 => ∃ ts n1 j1 us n j, ρ1[i]? = some (some (.own ts)) ∧ sv Γ ρ1 k1 = some (.d (.int n1)) ∧ ixN ts.length n1 = some j1 ∧ ts[j1]? = some (.own us) ∧
      sv Γ ρ1 k = some (.d (.int n)) ∧ ixN us.length n = some j ∧ D.nx (ρ1.set i (some (.own (ts.set j1 (.own (us.set j y))))))) := by
  have hbb := se_ok g k b hb
  have hb1 := se_ok g k1 b0 hb0
  obtain ⟨z, pz, rfl, h⟩ := okSE_var ha
  refine PS.imp (ps_asg he (pg_sub (pe_ix ix_list (e_name g h) hb1 (ix_plain pb0)) hbb set_list (sub_assign pb)) sole_sub st_sub rfl) fun D σ H ⟨F, G, ρ, L, D', s, hw, kt⟩ => ?_
  refine ⟨F, G, ρ, L, _, s, hw, fun y u ρ1 G1 H1 L1 M a q ⟨ts, n1, j1, us, n, j, ex, hk1, hj1, hu, hk, hj, hq⟩ => ?_⟩
  obtain ⟨ad, vs, b, ws, N', ev, hA, hlv, hvb, hB, r, nd, subN, wr⟩ := a.st.own2 ex hu
  refine ⟨.ref ad, ev, F, G1, ρ1, L1, _, a.st, hk1, fun v M3 r3 _ => ⟨ad, vs, n1, .ref b, rfl, r3.dq.1.int_of, SqL.of hA, ?_, ?_⟩⟩
  · unfold atI
    rw [hlv, hj1]
    exact hvb
  · obtain ⟨M'', r', nd', hM⟩ := ors_set r nd (ixN_seq hj).2.1 q subN
    obtain ⟨L2', c⟩ := wr r' nd' hM
    refine ⟨F, G1, ρ1, L1, _, a.st, hk, fun v M3 r3 _ => ⟨b, ws, n, j, rfl, r3.dq.1.int_of, hB, by rw [← r.length]; exact hj, ?_⟩⟩
    exact kt.nx _ _ G1 _ L2' (Aft.trans' a c) kept.refl hq
def wIxp (Γ : Gam) (i : Nat) (k1 k2 : SE) (wl : WL) : WS := fun D ρ => wl ρ fun xs ρ1 => ∃ y1 y2 ts n1 j1 n2 j2, xs = [.d y1, .d y2] ∧ ρ1[i]? = some (some (.own ts)) ∧ sv Γ ρ1 k1 = some (.d (.int n1)) ∧ ixN ts.length n1 = some j1 ∧
  sv Γ (ρ1.set i (some (.own (ts.set j1 (.d y1))))) k2 = some (.d (.int n2)) ∧ ixN ts.length n2 = some j2 ∧ D.nx (ρ1.set i (some (.own ((ts.set j1 (.d y1)).set j2 (.d y2)))))
theorem vals_two {K : PySem.W.Frag} {G H : Hp} {y1 y2 : PyData} {vs : List V} {M : List Addr} (r : ORs K G H [.d y1, .d y2] vs M) : ∃ v1 v2, vs = [v1, v2] ∧ Dq G v1 y1 ∧ Dq G v2 y2 := by
  cases r with
  | cons h1 t =>
    cases t with
    | cons h2 t =>
      cases t
      exact ⟨_, _, rfl, h1.dq.1, h2.dq.1⟩
/-- two items of one list stored, the first one first -/
theorem s_ixp (g : Gd Γ N sc X) {i k3 k4 : Nat} {k1 k2 : SE} {a1 b1 a2 b2 : Expr} {p1 p2 p3 p4 : Pos} (ha1 : okSE N sc (.var i) a1 = true) (hb1 : okSE N sc k1 b1 = true) (pb1 : plainE b1 = true)
    (ha2 : okSE N sc (.var i) a2 = true) (hb2 : okSE N sc k2 b2 = true) (pb2 : plainE b2 = true) (he : PA X es (liftL X.K n wl)) (hn : n ≤ 1000)
    (hw : swappedStores [.Tuple [.Subscript a1 b1 p1, .Subscript a2 b2 p2] k3 p3] (.Tuple es k4 p4) X.env = pure none) :
    PSt kp X (.Assign [.Tuple [.Subscript a1 b1 p1, .Subscript a2 b2 p2] k3 p3] (.Tuple es k4 p4) pos) (wIxp Γ i k1 k2 wl) := by
  have se1 := se_ok g k1 b1 hb1
  have se2 := se_ok g k2 b2 hb2
  obtain ⟨z1, pz1, rfl, h1⟩ := okSE_var ha1
  obtain ⟨z2, pz2, rfl, h2⟩ := okSE_var ha2
  refine PS.imp (ps_asg (pe_tup he) (pg_tup g.calm (pgs_cons (pg_sub (e_name g h1) se1 set_list (sub_assign pb1)) (pgs_cons (pg_sub (e_name g h2) se2 set_list (sub_assign pb2)) pgs_nil rfl) rfl) rfl rfl) sole_tup hw rfl) fun D σ H ⟨F, G, ρ, L, D', s, hw, kt⟩ => ?_
  refine ⟨F, G, ρ, L, _, s, hw, fun xs vs ρ1 G1 H1 L1 M a q hl ⟨y1, y2, ts, n1, j1, n2, j2, e0, ex, hk1, hj1, hk2, hj2, hq⟩ => ?_⟩
  subst e0
  obtain ⟨v1, v2, rfl, d1, d2⟩ := vals_two q.r
  refine ⟨small_n (n := 2) (by decide), fun pp hp => ⟨pp, [v1, v2], rfl, SqT.of upd_same, rfl, v1, [v2], rfl, ?_⟩⟩
  have b := a.st.made (o := .tup [v1, v2]) hp
  obtain ⟨ad, us, M', ev, hA, r, nd, sub, aL, aM, wr⟩ := b.st.own ex
  obtain ⟨M'', r', nd', hM⟩ := ors_set (y := .d y1) (u := v1) r nd (ixN_seq hj1).2.1 (Val.pure d1) sub
  obtain ⟨L2', c, _⟩ := wr r' nd' hM
  refine ⟨.ref ad, ev, F, G1, ρ1, L1, _, b.st, hk1, fun u M3 r3 _ => ⟨ad, us, n1, j1, rfl, r3.dq.1.int_of, hA, by rw [← r.length]; exact hj1, v2, [], rfl, ?_⟩⟩
  have hlt : i < ρ1.length := (List.getElem?_eq_some_iff.mp ex).1
  have ex2 : (ρ1.set i (some (.own (ts.set j1 (.d y1)))))[i]? = some (some (.own (ts.set j1 (.d y1)))) := by
    rw [List.getElem?_set]
    simp [hlt]
  obtain ⟨ad2, us2, N', ev2, hA2, r2, nd2, sub2, aL2, aM2, wr2⟩ := c.st.own ex2
  have hj3 : j2 < (ts.set j1 (Tv.d y1)).length := by
    rw [List.length_set]
    exact (ixN_seq hj2).2.1
  obtain ⟨N'', r2', nd2', hN⟩ := ors_set (y := .d y2) (u := v2) r2 nd2 hj3 (Val.pure (d2.grow c.gg)) sub2
  obtain ⟨L3', c2, _⟩ := wr2 r2' nd2' hN
  have hlen : us2.length = ts.length := by
    rw [← r2.length, List.length_set]
  refine ⟨.ref ad2, ev2, F, _, _, _, _, c.st, hk2, fun u M4 r4 _ => ⟨ad2, us2, n2, j2, rfl, r4.dq.1.int_of, hA2, by rw [hlen]; exact hj2, rfl, ?_⟩⟩
  exact kt.nx _ _ _ _ L3' (Aft.trans' (Aft.trans' (Aft.trans' a b) c) c2) kept.refl (by rw [List.set_set] at *; exact hq)
/-- an item stored at a place that is reckoned -/
theorem s_ixe (g : Gd Γ N sc X) {i : Nat} {a b : Expr} {p : Pos} (ha : okSE N sc (.var i) a = true) (hb : PE X b (lift X.K w1)) (pb : plainE b = true) (he : PE X e (lift X.K w)) :
    PSt kp X (.Assign [.Subscript a b p] e pos) (fun D ρ => w ρ fun y ρ1 => ∃ d, y = .d d ∧ (∃ ts, ρ1[i]? = some (some (.own ts))) ∧ w1 ρ1 fun z ρ2 => ∃ n ts j, z = .d (.int n) ∧ ρ2[i]? = some (some (.own ts)) ∧ ixN ts.length n = some j ∧ D.nx (ρ2.set i (some (.own (ts.set j (.d d)))))) := by
  obtain ⟨z, pz, rfl, h⟩ := okSE_var ha
  refine PS.imp (ps_asg he (pg_sub (e_name g h) hb set_list (sub_assign pb)) sole_sub st_sub rfl) fun D σ H ⟨F, G, ρ, L, D', s, hw, kt⟩ => ?_
  refine ⟨F, G, ρ, L, _, s, hw, fun y u ρ1 G1 H1 L1 M a q ⟨d, e0, ⟨ts0, ex0⟩, hw1⟩ => ?_⟩
  subst e0
  obtain ⟨ad0, vs0, M0, ev0, _⟩ := a.st.own ex0
  refine ⟨.ref ad0, ev0, F, G1, ρ1, L1, _, a.st, hw1, fun z v ρ2 G2 H2 L2 M2 b q2 ⟨n, ts, j, e1, ex, hj, hq⟩ => ?_⟩
  subst e1
  obtain ⟨ad, vs, M', ev, hA, r, nd, sub, aL, aM, wr⟩ := b.st.own ex
  rw [ev0] at ev
  cases ev
  have hjl : j < ts.length := (ixN_seq hj).2.1
  obtain ⟨M'', r', nd', hM⟩ := ors_set (y := .d d) (u := u) r nd hjl (Val.pure (q.r.dq.1.grow b.gg)) sub
  obtain ⟨L2', c, _⟩ := wr r' nd' hM
  refine ⟨ad0, vs, n, j, rfl, q2.r.dq.1.int_of, hA, by rw [← r.length]; exact hj, ?_⟩
  exact kt.nx _ _ _ _ L2' (Aft.trans' (Aft.trans' a b) c) kept.refl hq
end
end Tr
set_option Elab.async false
set_option linter.all false
set_option maxRecDepth 100000
set_option maxHeartbeats 2000000
namespace Tr
open PySem PySem.Spec PyProof.Rows L2
section
variable {Γ : Gam} {N : List Str} {sc : Scope} {X : Cx} {T : Str → Bool} {kp : Option Nat} {l r tg e it : Expr} {es : List Expr} {body els : List Stmt} {pos px : Pos} {w w1 w2 : WE} {wl : WL} {wi : WI} {wb wb2 : WS} {n : Nat}
theorem s_expr (he : PE X e (lift X.K w)) (hn : notComp e = true) : PSt kp X (.Expr e pos) (fun D ρ => w ρ fun _ ρ1 => D.nx ρ1) :=
  PS.imp (ps_expr he (sw_not hn)) fun D σ H ⟨F, G, ρ, L, D', s, hw, k⟩ => ⟨F, G, ρ, L, _, s, hw, fun x v ρ1 G1 H1 L1 M a q hq => k.nx _ _ G1 H1 L1 a kept.refl hq⟩
theorem s_ret (he : PE X e (lift X.K w)) : PSt kp X (.Return (some e) pos) (fun D ρ => w ρ fun x ρ1 => D.rt x ρ1) :=
  PS.imp (ps_ret he) fun D σ H ⟨F, G, ρ, L, D', s, hw, k⟩ => ⟨F, G, ρ, L, _, s, hw, fun x v ρ1 G1 H1 L1 M a q hq => k.rt x v _ _ G1 H1 L1 M a kept.refl q hq⟩
theorem s_retN : PSt kp X (.Return none pos) (fun D ρ => D.rt (.d .none) ρ) :=
  PS.imp ps_retN fun D σ H ⟨F, G, ρ, L, D', s, hw, k⟩ => k.rt _ _ _ _ G H L [] s.aft kept.refl (Val.pure .non) hw
theorem s_retv (g : Gd Γ N sc X) {i : Nat} (hk : kp ≠ some i) (ha : okSE N sc (.var i) e = true) : PSt kp X (.Return (some e) pos) (fun D ρ => ∃ x, ρ[i]? = some (some x) ∧ D.rt x (ρ.set i none)) := by
  obtain ⟨z, pz, rfl, h⟩ := okSE_var ha
  refine PS.imp (ps_ret (e_name g h)) fun D σ H ⟨F, G, ρ, L, D', s, ⟨x, ex, hq⟩, k⟩ => ?_
  obtain ⟨v, P, M, S, e1, e2, r, _, drop⟩ := s.sr.at ex
  have nd := s.nd
  rw [e1] at nd
  obtain ⟨n1, n2, n3⟩ := nodup_mid nd
  have sub : ∀ b ∈ P ++ S, b ∈ L := fun b hb => by rw [e1]; exact mem_mid.mpr (.inl hb)
  have sM : ∀ b ∈ M, b ∈ L := fun b hb => by rw [e1]; exact mem_mid.mpr (.inr hb)
  refine ⟨v, e2, ?_⟩
  have sr' := drop (G' := G) (H' := H) (Same.refl _) (fun _ _ => rfl) (fun b hb => (s.sr.there b (sub b hb)).2) (some v)
  rw [set_same e2] at sr'
  have s' : Sta X.K F G H (ρ.set i none) σ (P ++ S) := ⟨sr', n1, fun b hb => s.fr b (sub b hb), s.fh, s.gh, s.tb, s.nt, s.ng⟩
  exact k.rt x v _ _ G H (P ++ S) M s'.aft kept.refl ⟨r, n2, fun b hb => s.fr b (sM b hb), n3⟩ hq
theorem s_pass : PSt kp X (.Pass pos) (fun D ρ => D.nx ρ) := PS.imp ps_pass fun D σ H ⟨F, G, ρ, L, D', s, hw, k⟩ => k.nx _ _ G H L s.aft kept.refl hw
theorem s_brk : PSt kp X (.Break pos) (fun D ρ => D.bk ρ) := PS.imp ps_break fun D σ H ⟨F, G, ρ, L, D', s, hw, k⟩ => k.bk _ _ G H L s.aft kept.refl hw
theorem s_cont : PSt kp X (.Continue pos) (fun D ρ => D.ct ρ) := PS.imp ps_continue fun D σ H ⟨F, G, ρ, L, D', s, hw, k⟩ => k.ct _ _ G H L s.aft kept.refl hw
theorem s_never {st : Stmt} : PSt kp X st (fun _ _ => False) := PS.imp ps_never fun D σ H ⟨F, G, ρ, L, D', s, hw, k⟩ => hw
theorem s_if (hc : PT X e (liftT X.K w)) (ha : PSts kp X body wb) (hb : PSts kp X els wb2) : PSt kp X (.If e body els pos) (fun D ρ => w ρ fun x ρ1 => ∃ k, x = .d (.bool k) ∧ (k = true → wb D ρ1) ∧ (k = false → wb2 D ρ1)) := by
  refine PS.imp (ps_if hc ha hb) fun D σ H ⟨F, G, ρ, L, D', s, hw, k⟩ => ⟨F, G, ρ, L, _, s, hw, fun x v ρ1 G1 H1 L1 M a q ⟨b, ex, h1, h2⟩ => ?_⟩
  subst ex
  refine ⟨b, q.r.dq.1.bl_of, ?_⟩
  cases b with
  | true => exact ⟨F, G1, ρ1, L1, D', a.st, h1 rfl, k.step a kept.refl⟩
  | false => exact ⟨F, G1, ρ1, L1, D', a.st, h2 rfl, k.step a kept.refl⟩
theorem ss_nil : PSts kp X [] (fun D ρ => D.nx ρ) := PSs.imp pss_nil fun D σ H ⟨F, G, ρ, L, D', s, hw, k⟩ => k.nx _ _ G H L s.aft kept.refl hw
theorem ss_cons {st : Stmt} (ha : PSt kp X st wb) (hb : PSts kp X body wb2) : PSts kp X (st :: body) (fun D ρ => wb { D with nx := fun ρ1 => wb2 D ρ1 } ρ) := by
  refine PSs.imp (pss_cons ha hb) fun D σ H ⟨F, G, ρ, L, D', s, hw, k⟩ => ⟨F, G, ρ, L, _, s, hw, ⟨fun ρ1 σ1 G1 H1 L1 a hk hq => ⟨F, G1, ρ1, L1, D', a.st, hq, k.step a hk⟩, k.bk, k.ct, k.rt⟩⟩
/-- what the machine asks of loops -/
def GdP (X : Cx) : Prop := PassesOwn (model X.prog X.w) X.A X.env X.xe
theorem s_for (g : Gd Γ N sc X) (t : GdT T X) (po : GdP X) {tt : Tg} (er : List Nat) (hi : PI X tg it (liftI X.K wi)) (ht : okTg N T tt tg = true) (hk : ∀ i, kp = some i → i ∉ tgVs tt) (hb : PSts kp X body wb) (pl : plainE it = true) :
    PSt kp X (.For tg it body [] pos) (fun D ρ => wi ρ fun items ρ1 => ∃ I : Nat → Env' → Prop, I 0 ρ1 ∧
      (∀ k x ρ2, items[k]? = some x → I k ρ2 → wTg tt x ρ2 fun ρ3 => wb { nx := fun ρ4 => I (k + 1) (wipeR ρ4 er), ct := fun ρ4 => I (k + 1) (wipeR ρ4 er), bk := fun ρ4 => D.nx (wipeR ρ4 er), rt := D.rt } ρ3) ∧
      ∀ ρ2, I items.length ρ2 → D.nx ρ2) := by
  refine PS.imp (ps_for po g.calm hi (g_tg g.calm g.nm g.nd t tt tg ht) hb (folded_plain pl)) fun D σ H ⟨F, G, ρ, L, D', s, hw, k⟩ => ⟨F, G, ρ, L, _, s, hw, fun items ρ1 G1 H1 L1 J a wk ⟨I, h0, hs, hd⟩ => ?_⟩
  have k1 := k.step a kept.refl
  refine ⟨fun i m σ2 H2 => m = items.length - i ∧ i ≤ items.length ∧ ∃ ρ2 G2 L2, Aft X.K F G1 G2 H2 ρ2 σ2 L2 ∧ kept kp σ σ2 ∧ I i ρ2, ⟨items.length, by simp, Nat.zero_le _, ρ1, G1, L1, a.st.aft, kept.refl, h0⟩, ?_⟩
  rintro i m σ2 H2 ⟨rfl, hi, ρ2, G2, L2, b, hkp, hI⟩
  by_cases hlt : i < items.length
  · refine .inr ⟨wk.goes i H2 hlt (b.gg.trans b.st.gh), fun σ' H' => ∃ ρ3 G3 L3, Aft X.K F G1 G3 H' ρ3 σ' L3 ∧ kept kp σ σ' ∧ I (i + 1) ρ3, fun σ' H' p' => ⟨items.length - (i + 1), by omega, rfl, hlt, p'⟩, fun x H3 y => ?_⟩
    obtain ⟨d, G3, ed, c, dq⟩ := Wk.come (wk.grow b.gg) b.st hlt y
    refine ⟨F, G3, ρ2, L2, d, _, c.st, dq, hs i d ρ2 ed hI, fun ρ3 σ3 L3 s3 h3 ag hw3 => ?_⟩
    have kg : kept kp σ σ3 := hkp.trans fun j e => ag.2 j (hk j e)
    have b3 : Aft X.K F G1 G3 H3 ρ3 σ3 L3 := Aft.trans' (Aft.trans' b c) s3.aft
    refine ⟨F, G3, ρ3, L3, _, s3, hw3, ⟨fun ρ4 σ4 G4 H4 L4 d4 h4 q4 => ?_, fun ρ4 σ4 G4 H4 L4 d4 h4 q4 => ?_, fun ρ4 σ4 G4 H4 L4 d4 h4 q4 => ?_, fun x v ρ4 σ4 G4 H4 L4 M d4 h4 q r4 => ?_⟩⟩
    · obtain ⟨L5, s5⟩ := d4.st.forget er
      exact ⟨_, G4, L5, Aft.trans' (Aft.trans' b3 d4) s5.aft, kg.trans h4, q4⟩
    · obtain ⟨L5, s5⟩ := d4.st.forget er
      exact k1.nx _ _ G4 H4 L5 (Aft.trans' (Aft.trans' b3 d4) s5.aft) (kg.trans h4) q4
    · obtain ⟨L5, s5⟩ := d4.st.forget er
      exact ⟨_, G4, L5, Aft.trans' (Aft.trans' b3 d4) s5.aft, kg.trans h4, q4⟩
    · exact k1.rt x v _ _ G4 H4 L4 M (Aft.trans' b3 d4) (kg.trans h4) q r4
  · have e : i = items.length := by omega
    subst e
    exact .inl ⟨wk.stops H2 (b.gg.trans b.st.gh), k1.nx _ _ G2 H2 L2 b hkp (hd ρ2 hI)⟩
theorem s_while (po : GdP X) (er : List Nat) (hc : PT X e (liftT X.K w)) (hb : PSts kp X body wb) :
    PSt kp X (.While e body [] pos) (fun D ρ => ∃ (I : Env' → Prop) (μ : Env' → Nat), I ρ ∧ ∀ ρ1, I ρ1 → w ρ1 fun x ρ2 => ∃ k, x = .d (.bool k) ∧
      (k = true → wb { nx := fun ρ4 => I (wipeR ρ4 er) ∧ μ (wipeR ρ4 er) < μ ρ1, ct := fun ρ4 => I (wipeR ρ4 er) ∧ μ (wipeR ρ4 er) < μ ρ1, bk := fun ρ4 => D.nx (wipeR ρ4 er), rt := D.rt } ρ2) ∧ (k = false → D.nx ρ2)) := by
  refine PS.imp (ps_while po hc hb) fun D σ H ⟨F, G, ρ, L, D', s, ⟨I, μ, h0, hs⟩, k⟩ => ?_
  refine ⟨fun m σ2 H2 => ∃ ρ2 G2 L2, m = μ ρ2 ∧ Aft X.K F G G2 H2 ρ2 σ2 L2 ∧ kept kp σ σ2 ∧ I ρ2, ⟨μ ρ, ρ, G, L, rfl, s.aft, kept.refl, h0⟩, ?_⟩
  rintro m σ2 H2 ⟨ρ2, G2, L2, rfl, b, hkp, hI⟩
  refine ⟨F, G2, ρ2, L2, _, b.st, hs ρ2 hI, fun x v ρ3 G3 H3 L3 M c q ⟨kk, ex, h1, h2⟩ => ?_⟩
  subst ex
  have bc := Aft.trans' b c
  refine ⟨kk, q.r.dq.1.bl_of, ?_⟩
  cases kk with
  | false => exact k.nx _ _ G3 H3 L3 bc hkp (h2 rfl)
  | true =>
    refine ⟨fun σ' H' => ∃ ρ4 G4 L4, μ ρ4 < μ ρ2 ∧ Aft X.K F G G4 H' ρ4 σ' L4 ∧ kept kp σ σ' ∧ I ρ4, fun σ' H' ⟨ρ4, G4, L4, hm, a4, k4, i4⟩ => ⟨μ ρ4, hm, ρ4, G4, L4, rfl, a4, k4, i4⟩, ?_⟩
    refine ⟨F, G3, ρ3, L3, _, c.st, h1 rfl, ⟨fun ρ4 σ4 G4 H4 L4 d4 h4 q4 => ?_, fun ρ4 σ4 G4 H4 L4 d4 h4 q4 => ?_, fun ρ4 σ4 G4 H4 L4 d4 h4 q4 => ?_, fun x v ρ4 σ4 G4 H4 L4 M d4 h4 q r4 => ?_⟩⟩
    · obtain ⟨L5, s5⟩ := d4.st.forget er
      exact ⟨_, G4, L5, q4.2, Aft.trans' (Aft.trans' bc d4) s5.aft, hkp.trans h4, q4.1⟩
    · obtain ⟨L5, s5⟩ := d4.st.forget er
      exact k.nx _ _ G4 H4 L5 (Aft.trans' (Aft.trans' bc d4) s5.aft) (hkp.trans h4) q4
    · obtain ⟨L5, s5⟩ := d4.st.forget er
      exact ⟨_, G4, L5, q4.2, Aft.trans' (Aft.trans' bc d4) s5.aft, hkp.trans h4, q4.1⟩
    · exact k.rt x v _ _ G4 H4 L4 M (Aft.trans' bc d4) (hkp.trans h4) q r4
end
end Tr
set_option Elab.async false
set_option linter.all false
set_option maxRecDepth 100000
set_option maxHeartbeats 2000000
namespace Tr
open PySem PySem.Spec PyProof.Rows L2
def cellsB (h : Heap) (l : List Addr) : List (Addr × Obj) := l.filterMap fun a => (h.get? a).map fun o => (a, o)
theorem cellsB_at {h : Heap} : ∀ {l : List Addr} {a : Addr} {oc : Obj}, (cellsB h l).lookup a = some oc → a ∈ l ∧ h.get? a = some oc
  | [], a, oc, e => by cases e
  | b :: l, a, oc, e => by
    unfold cellsB at e
    rw [List.filterMap_cons] at e
    cases q : h.get? b with
    | none =>
      rw [q] at e
      obtain ⟨e1, e2⟩ := cellsB_at (h := h) (l := l) e
      exact ⟨List.mem_cons_of_mem _ e1, e2⟩
    | some o =>
      rw [q] at e
      have e : ((b, o) :: cellsB h l).lookup a = some oc := e
      rw [List.lookup_cons] at e
      split at e
      · rename_i hab
        have hab : a = b := by simpa using hab
        cases e
        rw [hab]
        exact ⟨List.mem_cons_self, q⟩
      · obtain ⟨e1, e2⟩ := cellsB_at (h := h) (l := l) e
        exact ⟨List.mem_cons_of_mem _ e1, e2⟩
theorem cellsB_of {h : Heap} : ∀ {l : List Addr} {a : Addr} {oc : Obj}, a ∈ l → h.get? a = some oc → (cellsB h l).lookup a = some oc
  | [], a, oc, e, _ => absurd e (by simp)
  | b :: l, a, oc, e, g => by
    unfold cellsB
    rw [List.filterMap_cons]
    by_cases hab : a = b
    · subst hab
      rw [g]
      show ((a, oc) :: cellsB h l).lookup a = some oc
      rw [List.lookup_cons, beq_self_eq_true]
    · have e' := (List.mem_cons.mp e).resolve_left hab
      cases q : h.get? b with
      | none => exact cellsB_of e' g
      | some o =>
        show ((b, o) :: cellsB h l).lookup a = some oc
        rw [List.lookup_cons, beq_eq_false_iff_ne.mpr hab]
        exact cellsB_of e' g
theorem look_snd {cl : List (Str × Addr)} {y : Str} {a : Addr} (h : cl.lookup y = some a) : a ∈ cl.map (·.2) := List.mem_map.mpr ⟨(y, a), PySem.mem_of_lookup h, rfl⟩
def dataO : HO → Bool
  | .lst _ => true
  | .frz _ (.tup _) => true
  | .dK _ => true
  | _ => false
section
variable {G G' : Hp}
mutual
theorem Dq.less (g : ∀ a o, G a = some o → dataO o = true → G' a = some o) : ∀ {v : V} {x : PyData}, Dq G v x → Dq G' v x
  | _, _, .non => .non
  | _, _, .bl b => .bl b
  | _, _, .int i => .int i
  | _, _, .str z => .str z
  | _, _, .lst hs ha => .lst (g _ _ hs rfl) (DqAll.less g ha)
  | _, _, .tup hs ha => .tup (hs.imp fun _ z => ⟨g _ _ z.1 rfl, z.2⟩) (DqAll.less g ha)
  | _, _, .dct hs e ha => .dct (g _ _ hs rfl) e (DqAll.less g ha)
theorem DqAll.less (g : ∀ a o, G a = some o → dataO o = true → G' a = some o) : ∀ {vs : List V} {xs : List PyData}, DqAll G vs xs → DqAll G' vs xs
  | _, _, .nil => .nil
  | _, _, .cons h t => .cons (Dq.less g h) (DqAll.less g t)
end
end
/-- what is known of a def that makes lambdas -/
def LmOk (X : Cx) : Prop := (∃ c P, X.env.code = .ref c ∧ LamX.TabB X.base X.mg c P ∧ (P, X.env.qual ++ "<lambda>") ∈ tabsOf X.K ∧ ∀ p ∈ tabsOf X.K, p.1 = P → p.2 = X.env.qual ++ "<lambda>") ∧ ∀ y, X.fn y = true
def lamFree (sc : Scope) (k : LamK) (caps : List (Str × Nat)) : Bool := k.scope.names.all (fun y => !decide (y.2 = .free) || decide (sc.names.lookup y.1 = some .cell) || decide (sc.names.lookup y.1 = some .free)) && k.params.defaults.isEmpty && k.params.kw_defaults.isEmpty &&
  caps.all fun p => decide ((p.1, NameKind.free) ∈ k.scope.names) && (decide (sc.names.lookup p.1 = some .cell) || decide (sc.names.lookup p.1 = some .free))
def LamV (H1 H2 : Hp) (k : LamK) (q : Str) (cl : List (Str × Addr)) (f c : Addr) : Prop := LamX.ExtN H1 H2 ∧ (∀ b, H2 b = none → H1 b = none) ∧ H1 f = none ∧ H2 f = some (LamO f c k q cl) ∧ H2 c = some (LamX.CodeO c q)
def liftLF (K : PySem.W.Frag) (n : Nat) (w : WL) (k : LamK) (q : Str) (cl : List (Str × Addr)) : TA := fun σ H R => ∃ F G ρ L Q, Sta K F G H ρ σ L ∧ w ρ Q ∧
  ∀ xs vs ρ' G1 H1 L1 M H2 f c, Aft K F G G1 H1 ρ' σ L1 → ValL K F G1 H1 L1 xs vs M → xs.length = n → Q xs ρ' → LamV H1 H2 k q cl f c → LamX.Tabs (tabsOf K) H2 → R (vs ++ [.ref f]) H2
section
variable {Γ : Gam} {Φ : Phi} {j : Nat} {N : List Str} {sc : Scope} {X : Cx} {l r : Expr} {rest es : List Expr} {pos px : Pos} {w w1 w2 : WE} {wl : WL} {n : Nat} {k : LamK} {q : Str} {cl : List (Str × Addr)}
theorem defaults_none {p : Arguments} {env : Env} (h1 : p.defaults.isEmpty = true) (h2 : p.kw_defaults.isEmpty = true) : defaultsOf p env = ([], []) := by
  obtain ⟨a, b, c, d, e, f, g⟩ := p
  have e1 : g = [] := List.isEmpty_iff.mp h1
  have e2 : e = [] := List.isEmpty_iff.mp h2
  cases e1
  cases e2
  rfl
theorem aF_nil {p : Arguments} {b : Expr} {s2 : Scope} (lm : LmOk X) (hsc : X.env.scope = sc) {caps : List (Str × Nat)} (hf : lamFree sc ⟨p, b, s2⟩ caps = true) :
    PA X [.Lambda p b s2 pos] (liftLF X.K 0 (fun ρ Q => Q [] ρ) ⟨p, b, s2⟩ (X.env.qual ++ "<lambda>") (cloFrom X.env.cells s2.names [])) := by
  obtain ⟨⟨c, P, hc, TB, hm, hu⟩, _⟩ := lm
  unfold lamFree at hf
  simp only [Bool.and_eq_true, Bool.or_eq_true, Bool.not_eq_true', decide_eq_true_eq, decide_eq_false_iff_not, List.all_eq_true] at hf
  obtain ⟨⟨⟨hf1, hf2⟩, hf3⟩, _⟩ := hf
  refine ⟨fun pos' pins s σ H R I ⟨F, G, ρ, L, Q, st, hw, k⟩ => ?_⟩
  rw [starEach_plain rfl]
  show wpAny _ _ (spliced ((false, eval (.Lambda p b s2 pos) X.env) :: backTo pos' (starEach [] X.env))) _ _ s
  refine Calls.spliced_cons (lam_make3 I TB hc hm hu st.tb (defaults_none hf2 hf3) (fun y hy e => ?_) fun f c' H1 s' I1 eN un T1 hfn hfo hco => ?_)
  · rcases hf1 y hy with (z | z) | z
    · exact absurd e z
    · exact I.ok.has _ (.inl (by rw [show X.env.kindOf y.1 = X.env.scope.names.lookup y.1 from rfl, hsc]; exact z))
    · exact I.ok.has _ (.inr (by rw [show X.env.kindOf y.1 = X.env.scope.names.lookup y.1 from rfl, hsc]; exact z))
  · exact Calls.spliced_nil ⟨[.ref f], H1, I1, .cons rfl .nil, k [] [] ρ G H L [] H1 f c' (Aft.refl st) ⟨.nil, List.nodup_nil, fun _ z => absurd z (by simp), fun _ z => absurd z (by simp)⟩ rfl hw ⟨eN, un, hfn, hfo, hco⟩ T1⟩
theorem aF_cons (ha : PE X l (lift X.K w)) (hr : PA X rest (liftLF X.K n wl k q cl)) (pl : plainE l = true) : PA X (l :: rest) (liftLF X.K (n + 1) (fun ρ Q => w ρ fun x ρ1 => wl ρ1 fun xs ρ2 => Q (x :: xs) ρ2) k q cl) := by
  refine PA.imp (pa_cons ha hr (starEach_plain pl)) fun σ H R ⟨F, G, ρ, L, Q, s, hw, kk⟩ => ?_
  refine ⟨F, G, ρ, L, _, s, hw, fun x v ρ1 G1 H1 L1 M a q hb => ⟨Tr.hold F H1 M, G1, ρ1, L1, _, a.st.hold q, hb, fun xs vs ρ2 G2 H2 L2 M2 H3 f c b q2 hn hq lv tb => ?_⟩⟩
  obtain ⟨b1, q1⟩ := Aft.held q b
  refine kk (x :: xs) (v :: vs) ρ2 G2 H2 L2 (M ++ M2) H3 f c (a.trans b1) ⟨.cons q1.r q2.r, ?_, fun c hc => ?_, fun c hc => ?_⟩ (by simp [hn]) hq lv tb
  · rw [List.nodup_append]
    refine ⟨q1.nd, q2.nd, fun c hc d hd e => ?_⟩
    subst e
    have := q2.fr c hd
    obtain ⟨⟨o, ho⟩, _⟩ := q.r.there c hc
    rw [hold_in hc, ho] at this
    cases this
  · rcases List.mem_append.mp hc with h | h
    · exact q1.fr c h
    · exact (hold_le q.fr).free (q2.fr c h)
  · rcases List.mem_append.mp hc with h | h
    · exact q1.ap c h
    · exact q2.ap c h
theorem capsV_at {ρ : Env'} : ∀ {caps : List (Str × Nat)} {cs : List (Str × PyData)}, capsV ρ caps = some cs → ∀ p ∈ cs, ∃ i, (p.1, i) ∈ caps ∧ ρ[i]? = some (some (.d p.2))
  | [], cs, h, p, hp => by
    cases h
    cases hp
  | (x, i) :: caps, cs, h, p, hp => by
    rw [capsV] at h
    split at h
    · rename_i d cs' e1 e2
      cases h
      rcases List.mem_cons.mp hp with e | hp
      · rw [e]
        exact ⟨i, List.mem_cons_self, e1⟩
      · obtain ⟨j, h1, h2⟩ := capsV_at e2 p hp
        exact ⟨j, List.mem_cons_of_mem _ h1, h2⟩
    · cases h
/-- the cells that a new lambda has captured -/
theorem cells_free {pins : List (Addr × Obj)} {σ : L2.St} {H : Hp} {s : Shared} (I : Inv X pins σ H s) (lm : LmOk X) {names : List (Str × NameKind)} (hfree : ∀ y ∈ names, y.2 = .free → ∃ c, X.env.cells.lookup y.1 = some c) :
    FreeC X.base X.stack H s.heap (cellsB s.heap ((cloFrom X.env.cells names []).map (·.2))) := by
  intro a oc h
  obtain ⟨h1, h2⟩ := cellsB_at h
  obtain ⟨⟨y, a'⟩, hm, e⟩ := List.mem_map.mp h1
  have e : a' = a := e
  subst e
  have hy : X.env.cells.lookup y = some a' := by
    rcases cloFrom_mem hm with z | ⟨z1, z2⟩
    · cases z
    · obtain ⟨c, hc⟩ := hfree _ z1 rfl
      have hc : X.env.cells.lookup y = some c := hc
      rw [hc] at z2
      rw [hc, z2]
      rfl
  have big := I.ok.cab y a' (lm.2 y) hy
  refine ⟨h2, I.freeC y a' hy, Heap.get?_none_of_le (Nat.le_trans I.ok.bsz big), fun hb => ?_⟩
  have old : ∀ b, b ∈ frs X.outer → b < a' := fun b hb => by
    obtain ⟨_, o, ho, _⟩ := I.ok.funs.mem hb
    exact Nat.lt_of_lt_of_le (Heap.lt_size ho) big
  rcases I.ok.stk with e | ⟨e1, e2⟩
  · rw [e] at hb
    exact Nat.lt_irrefl _ (old _ hb)
  · rw [e1] at hb
    have hb : a' ∈ (X.env :: X.outer).filterMap (·.frame) := hb
    rw [List.filterMap_cons, e2] at hb
    rcases List.mem_cons.mp hb with z | z
    · obtain ⟨m, ⟨o, es, ep, ho, hd, _⟩, _⟩ := I.loc
      obtain ⟨v, o', ho', hd'⟩ := I.cell y a' hy
      rw [← z, ho'] at ho
      cases ho
      rw [hd] at hd'
      cases hd'
    · exact Nat.lt_irrefl _ (old _ z)
theorem e_callF (g : Gd Γ N sc X) (c : GdC Φ j X) (lm : LmOk X) {f : Str} {ok : LamK → Bool} {caps : List (Str × Nat)} (hg : glB sc f = true) (hn : nmB f = true) (hlb : lamB f = false) (hcaps : caps.all (fun p => decide (N[p.2]? = some p.1)) = true) (hfr : lamFree sc k caps = true) (hok : ok k = true)
    (ha : PA X (l :: es) (liftLF X.K n wl k (X.env.qual ++ "<lambda>") (cloFrom X.env.cells k.scope.names []))) (pl : plainE l = true) (ps : es.all plainE = true) :
    PE X (.Call (.Name f px) (l :: es) [] pos) (lift X.K fun ρ Q => ∃ fe, Φ f = some fe ∧ fe.ow = none ∧ wl ρ fun xs ρ1 => ∃ as cs, argTs xs = some as ∧ capsV ρ1 caps = some cs ∧ ∀ k, ok k = true → fe.fs (as ++ [.fn k cs]) fun z _ => ∃ d, z = .d d ∧ Q (.d d) ρ1) := by
  refine ⟨fun pins s σ H R I ⟨F, G, ρ, L, Q, st, ⟨fe, hf, ho, hw⟩, kt⟩ => ?_⟩
  obtain ⟨addr, fd, hm, hk, gn, hb, _⟩ := c.fns f fe hf hlb
  rw [ho] at gn
  have hfr' := hfr
  unfold lamFree at hfr'
  simp only [Bool.and_eq_true, Bool.or_eq_true, Bool.not_eq_true', decide_eq_true_eq, decide_eq_false_iff_not, List.all_eq_true] at hfr'
  obtain ⟨⟨⟨hf1, _⟩, _⟩, hf4⟩ := hfr'
  refine wpAny_Call_Name_kw (ld_glob I (g.glo hg) hm ?_ (nm1 hn))
  refine PySem.W.callWith_K (h₀ := X.base) I.ok.mod.kin hk (thn (ha.run pos pins s σ H (fun vs H2 => ∃ vs0 ρ1 G1 H1 L1 fa ca as cs, vs = vs0 ++ [.ref fa] ∧ Aft X.K F G G1 H1 ρ1 σ L1 ∧ ORs X.K G1 H1 as vs0 [] ∧ capsV ρ1 caps = some cs ∧
      (∀ k, ok k = true → fe.fs (as ++ [.fn k cs]) fun z _ => ∃ d, z = .d d ∧ Q (.d d) ρ1) ∧ LamV H1 H2 k (X.env.qual ++ "<lambda>") (cloFrom X.env.cells k.scope.names []) fa ca ∧ LamX.Tabs (tabsOf X.K) H2) I ?_) fun us s1 ⟨vs, H2, I2, r, vs0, ρ1, G1, H1, L1, fa, ca, as, cs, ev, a, ra, hcs, hq, ⟨eN, un, hfn, hfo, hco⟩, tb⟩ => ⟨I2.kIn, ?_⟩) (starEach_plain pl) (plain_any ps)
  · refine ⟨F, G, ρ, L, _, st, hw, fun xs vs ρ' G1 H1 L1 M H2 fa ca a q _ ⟨as, cs, h1, h2, h3⟩ lv tb => ?_⟩
    obtain ⟨b, r⟩ := a.st.frozenA q h1
    exact ⟨vs, ρ', _, H1, L1, fa, ca, as, cs, rfl, a.trans b, r, h2, h3, lv, tb⟩
  subst ev
  have hfree : ∀ y ∈ k.scope.names, y.2 = .free → ∃ c, X.env.cells.lookup y.1 = some c := fun y hy e => by
    have kk : X.env.kindOf y.1 = sc.names.lookup y.1 := by rw [← g.sc]; rfl
    rcases hf1 y hy with (z | z) | z
    · exact absurd e z
    · exact I2.ok.has _ (.inl (kk.trans z))
    · exact I2.ok.has _ (.inr (kk.trans z))
  have FB := cells_free I2 lm hfree
  have sub : ∀ y a, (cloFrom X.env.cells k.scope.names []).lookup y = some a → X.env.cells.lookup y = some a := fun y a e => NdefX.clo_cm hfree e
  have Bof : ∀ y a, (cloFrom X.env.cells k.scope.names []).lookup y = some a → ∀ oc, s1.heap.get? a = some oc → (cellsB s1.heap ((cloFrom X.env.cells k.scope.names []).map (·.2))).lookup a = some oc := fun y a e oc ho => cellsB_of (look_snd e) ho
  generalize hcl : cloFrom X.env.cells k.scope.names [] = cl at *
  generalize hB : cellsB s1.heap (cl.map (·.2)) = B at *
  generalize hqn : X.env.qual ++ "<lambda>" = qn at *
  -- H2 keeps what H1 had
  have h12 : ∀ b o, H1 b = some o → (∀ ps, o ≠ .tbl ps) → H2 b = some o := eN
  have g12 : Same G1 H2 := fun b o e => h12 b o (a.st.gh b o e) fun ps z => a.st.ng b ps (by rw [e, z])
  have nB : ∀ b o, H2 b = some o → B.lookup b = none := fun b o e => by
    cases q : B.lookup b with
    | none => rfl
    | some oc => rw [(FB b oc q).2.1] at e; cases e
  have nB1 : ∀ b oc, B.lookup b = some oc → G1 b = none := fun b oc q => by
    cases q1 : G1 b with
    | none => rfl
    | some o => rw [nB b o (g12 b o q1)] at q; cases q
  have G1fa : G1 fa = none := a.st.gh.free hfn
  -- the callee's heaps
  let Gp : Hp := addC (upd (upd G1 ca (LamX.CodeO ca qn)) fa (LamO fa ca k qn cl)) B
  let Hp' : Hp := addC H2 B
  have Gfa : Gp fa = some (LamO fa ca k qn cl) := by
    show addC _ B fa = _
    rw [addC_out (nB fa _ hfo), upd_same]
  have Gca : Gp ca = some (LamX.CodeO ca qn) := by
    show addC _ B ca = _
    rw [addC_out (nB ca _ hco)]
    by_cases z : ca = fa
    · have e1 : H2 ca = some (LamO fa ca k qn cl) := (congrArg H2 z).trans hfo
      have e2 : upd (upd G1 ca (LamX.CodeO ca qn)) fa (LamO fa ca k qn cl) ca = some (LamO fa ca k qn cl) := (congrArg (upd (upd G1 ca (LamX.CodeO ca qn)) fa (LamO fa ca k qn cl)) z).trans upd_same
      exact e2.trans (e1.symm.trans hco)
    · rw [upd_ne z, upd_same]
  have Gout : ∀ b, b ≠ fa → b ≠ ca → B.lookup b = none → Gp b = G1 b := fun b h1 h2 h3 => by
    show addC _ B b = _
    rw [addC_out h3, upd_ne h1, upd_ne h2]
  have GB : ∀ b oc, B.lookup b = some oc → Gp b = some (CelO b oc) := fun b oc q => addC_in q
  have gGp : Same G1 Gp := fun b o e => by
    have e2 := g12 b o e
    by_cases h1 : b = fa
    · rw [h1, G1fa] at e; cases e
    · by_cases h2 : b = ca
      · rw [h2] at e2 ⊢
        rw [hco] at e2
        rw [Gca, e2]
      · rw [Gout b h1 h2 (nB b o e2)]
        exact e
  have gp : Same Gp Hp' := fun b o e => by
    cases q : B.lookup b with
    | some oc =>
      rw [GB b oc q] at e
      show addC H2 B b = _
      rw [addC_in q]
      exact e
    | none =>
      show addC H2 B b = _
      rw [addC_out q]
      by_cases h1 : b = fa
      · rw [h1, Gfa] at e
        rw [h1, hfo]
        exact e
      · by_cases h2 : b = ca
        · rw [h2, Gca] at e
          rw [h2, hco]
          exact e
        · rw [Gout b h1 h2 q] at e
          exact g12 b o e
  have hp' : ∀ b o, H2 b = some o → Hp' b = some o := fun b o e => by
    show addC H2 B b = _
    rw [addC_out (nB b o e)]
    exact e
  let Fp : Hp := fun b => match Gp b with
    | none => Tr.hold F H2 L1 b
    | some _ => none
  have Fp_none : ∀ b, Gp b = none → Fp b = Tr.hold F H2 L1 b := fun b e => by
    show (match Gp b with | none => Tr.hold F H2 L1 b | some _ => none) = _
    rw [e]
  have Fp_some : ∀ b o, Fp b = some o → Gp b = none ∧ Tr.hold F H2 L1 b = some o := fun b o e => by
    cases q : Gp b with
    | none => rw [Fp_none b q] at e; exact ⟨rfl, e⟩
    | some u =>
      have e : (match Gp b with | none => Tr.hold F H2 L1 b | some _ => none) = some o := e
      rw [q] at e
      cases e
  have Lh : ∀ b ∈ L1, ∃ ws, H1 b = some ws ∧ H2 b = some ws ∧ Gp b = none ∧ B.lookup b = none ∧ OwnO ws := fun b hb => by
    obtain ⟨ws, e, hw⟩ := a.st.sr.list b hb
    have e2 := h12 b _ e hw.ne_tbl
    refine ⟨ws, e, e2, ?_, nB b _ e2, hw⟩
    rw [Gout b (fun z => by rw [z, hfn] at e; cases e) (fun z => by rw [z, hco] at e2; cases e2; cases hw) (nB b _ e2)]
    exact (a.st.sr.there b hb).2
  have Fh : ∀ b o, F b = some o → H2 b = some o := fun b o e => h12 b o (a.st.fh b o e) fun ps z => a.st.nt b ps (by rw [e, z])
  have hold2 : ∀ b o, Tr.hold F H2 L1 b = some o → H2 b = some o := fun b o e => by
    unfold Tr.hold at e
    split at e
    · exact e
    · exact Fh b o e
  -- the lambda, as the callee has it
  have fc : FnC Gp k cs (.ref fa) := by
    refine ⟨fa, ca, qn, cl, B, rfl, Gfa, Gca, GB, fun y b e => ?_, fun x y b e1 e2 => I2.ok.inj x y b (sub x b e1) (sub y b e2), fun p hp => ?_⟩
    · obtain ⟨v, o, ho, hd⟩ := I2.cell y b (sub y b e)
      exact ⟨o, v, Bof y b e o ho, hd⟩
    · obtain ⟨i, hi, hv⟩ := capsV_at hcs p hp
      have hN : X.N[i]? = some p.1 := by
        rw [g.nm]
        exact of_decide_eq_true (List.all_eq_true.mp hcaps _ hi)
      obtain ⟨hy, hkind⟩ := hf4 _ hi
      have hkind : X.env.scope.names.lookup p.1 = some .cell ∨ X.env.scope.names.lookup p.1 = some .free := by
        rw [g.sc]
        exact hkind
      obtain ⟨v, _, M0, _, _, e2, r0, _⟩ := a.st.sr.at hv
      obtain ⟨m, hns, hl⟩ := I2.loc
      obtain ⟨u, rv, lo⟩ := hl i p.1 v hN e2 (hkind.elim (fun z => .inr (.inl z)) fun z => .inr (.inr z))
      rcases lo with ⟨z, _⟩ | ⟨_, a', ha', ⟨oc, hoc, hd⟩⟩
      · have z' : X.env.scope.names.lookup p.1 = some .local := z
        rcases hkind with kk | kk <;> rw [kk] at z' <;> cases z'
      · have hc' : cl.lookup p.1 = some a' := by
          rw [← hcl]
          exact NdefX.clo_has hfree hy ha'
        exact ⟨a', oc, u, v, hc', Bof _ _ hc' oc hoc, hd, rv, r0.dq.1.grow gGp⟩
  have args := ORs.append (ra.step gGp (fun _ z => absurd z (by simp)) (fun _ z => absurd z (by simp)) : ORs X.K Gp Hp' as vs0 []) (OR.fn fc : OR X.K Gp Hp' (Tv.fn k cs) (V.ref fa) [])
  have stp : Sta X.K Fp Gp Hp' ((as ++ [Tv.fn k cs]).map some) ((vs0 ++ [V.ref fa]).map some) [] := by
    refine ⟨args.sr, List.nodup_nil, fun _ z => absurd z (by simp), fun b o e => ?_, gp, tb.ext hp', fun b ps e => ?_, fun b ps e => ?_⟩
    · exact hp' b o (hold2 b o (Fp_some b o e).2)
    · exact hold_nt a.st.nt (fun b hb => let ⟨ws, _, e2, _, _, hw⟩ := Lh b hb; ⟨ws, e2, hw⟩) b ps (Fp_some b _ e).2
    · cases q : B.lookup b with
      | some oc => rw [GB b oc q] at e; unfold CelO at e; cases e
      | none =>
        by_cases h1 : b = fa
        · rw [h1, Gfa] at e
          exact lamO_ne ps (Option.some.inj e)
        · by_cases h2 : b = ca
          · rw [h2, Gca] at e
            exact LamX.codeO_ne ps (Option.some.inj e)
          · rw [Gout b h1 h2 q] at e
            exact a.st.ng b ps e
  have prom : liftF X.K none fe.fs (vs0 ++ [V.ref fa]) Hp' (fun v H' => R v (dropC H' B)) := by
    refine ⟨Fp, Gp, _, [], _, stp, hq k hok, fun z v ns σ' G' H' L' M ab q _ ⟨d, ed, hd⟩ => ?_⟩
    subst ed
    let Gq : Hp := fun b => match G1 b, decide (b = fa ∨ b = ca) || (B.lookup b).isSome with
      | none, true => none
      | _, _ => G' b
    have Gq_in : ∀ b o, G1 b = some o → Gq b = G' b := fun b o e => by
      show (match G1 b, decide (b = fa ∨ b = ca) || (B.lookup b).isSome with | none, true => none | _, _ => G' b) = _
      rw [e]
    have Gq_junk : ∀ b, G1 b = none → (b = fa ∨ b = ca ∨ ∃ oc, B.lookup b = some oc) → Gq b = none := fun b e h => by
      show (match G1 b, decide (b = fa ∨ b = ca) || (B.lookup b).isSome with | none, true => none | _, _ => G' b) = _
      have : (decide (b = fa ∨ b = ca) || (B.lookup b).isSome) = true := by
        rcases h with h | h | ⟨oc, h⟩
        · rw [decide_eq_true (.inl h)]; rfl
        · rw [decide_eq_true (.inr h)]; rfl
        · rw [h, Option.isSome_some, Bool.or_true]
      rw [e, this]
    have Gq_out : ∀ b, b ≠ fa → b ≠ ca → B.lookup b = none → Gq b = G' b := fun b h1 h2 h3 => by
      show (match G1 b, decide (b = fa ∨ b = ca) || (B.lookup b).isSome with | none, true => none | _, _ => G' b) = _
      have : (decide (b = fa ∨ b = ca) || (B.lookup b).isSome) = false := by
        rw [decide_eq_false (fun z => z.elim h1 h2), h3]
        rfl
      rw [this]
      cases G1 b <;> rfl
    have Gq_le : ∀ b o, Gq b = some o → G' b = some o ∧ B.lookup b = none := fun b o e => by
      cases e1 : G1 b with
      | some u =>
        rw [Gq_in b u e1] at e
        exact ⟨e, nB b u (g12 b u e1)⟩
      | none =>
        by_cases h1 : b = fa
        · rw [Gq_junk b e1 (.inl h1)] at e; cases e
        · by_cases h2 : b = ca
          · rw [Gq_junk b e1 (.inr (.inl h2))] at e; cases e
          · cases q3 : B.lookup b with
            | some oc => rw [Gq_junk b e1 (.inr (.inr ⟨oc, q3⟩))] at e; cases e
            | none =>
              rw [Gq_out b h1 h2 q3] at e
              exact ⟨e, rfl⟩
    have gq : Same G1 Gq := fun b o e => by
      rw [Gq_in b o e]
      exact ab.gg b o (gGp b o e)
    have back : ∀ b o, H2 b = some o → (Tr.hold F H2 L1 b = some o ∨ ∃ u, Gp b = some u) → dropC H' B b = some o := fun b o e h => by
      rw [dropC_out (nB b o e)]
      cases q1 : Gp b with
      | some u =>
        have e2 := gp b u q1
        rw [hp' b o e] at e2
        rw [Option.some.inj e2]
        exact ab.st.gh b u (ab.gg b u q1)
      | none =>
        rcases h with h | ⟨u, h⟩
        · exact ab.st.fh b o (by rw [Fp_none b q1]; exact h)
        · rw [q1] at h; cases h
    have Lb : ∀ b ∈ L1, dropC H' B b = H1 b ∧ Gq b = none := fun b hb => by
      obtain ⟨ws, e1, e2, e3, e4, _⟩ := Lh b hb
      refine ⟨?_, ?_⟩
      · rw [e1]
        exact back b _ e2 (.inl (by rw [hold_in hb]; exact e2))
      · have g' : G' b = none := ab.gf b (by rw [Fp_none b e3, hold_in hb, e2]; exact fun z => by cases z) e3
        cases q1 : Gq b with
        | none => rfl
        | some o =>
          rw [(Gq_le b o q1).1] at g'
          cases g'
    refine kt (.d d) v ρ1 Gq (dropC H' B) L1 [] ⟨⟨a.st.sr.step gq (fun b hb => (Lb b hb).1) fun b hb => (Lb b hb).2, a.st.nd, a.st.fr, fun b o e => ?_, fun b o e => ?_, fun p hp => ?_, a.st.nt, fun b ps e => ?_⟩, a.gg.trans gq, fun b h1 h2 => ?_⟩ (Val.pure (q.r.dq.1.less fun b o e hd' => ?_)) hd
    · refine back b o (Fh b o e) ?_
      by_cases hb : b ∈ L1
      · rw [a.st.fr b hb] at e; cases e
      · exact .inl (by unfold Tr.hold; rw [if_neg hb]; exact e)
    · obtain ⟨e1, e2⟩ := Gq_le b o e
      rw [dropC_out e2]
      exact ab.st.gh b o e1
    · obtain ⟨ps, h1, h2, h3⟩ := ab.st.tb p hp
      have noB : ∀ b o, H' b = some o → (∀ oc, o ≠ CelO b oc) → dropC H' B b = some o := fun b o e n => by
        cases q1 : B.lookup b with
        | none => rw [dropC_out q1]; exact e
        | some oc =>
          have := ab.st.gh b _ (ab.gg b _ (GB b oc q1))
          rw [e] at this
          exact absurd (Option.some.inj this) (n oc)
      refine ⟨ps, noB _ _ h1 (fun oc z => by unfold CelO at z; cases z), h2, fun pos' cv hc => ?_⟩
      obtain ⟨c0, e1, e2⟩ := h3 pos' cv hc
      exact ⟨c0, e1, noB _ _ e2 (fun oc z => by unfold CelO LamX.CodeO at z; cases z)⟩
    · exact ab.st.ng b ps (Gq_le b _ e).1
    · have n1 : G1 b = none := a.gf b h1 h2
      cases e1 : Gq b with
      | none => rfl
      | some o =>
        exfalso
        obtain ⟨e2, e3⟩ := Gq_le b o e1
        by_cases z1 : b = fa
        · rw [Gq_junk b n1 (.inl z1)] at e1; cases e1
        · by_cases z2 : b = ca
          · rw [Gq_junk b n1 (.inr (.inl z2))] at e1; cases e1
          · have gpn : Gp b = none := by rw [Gout b z1 z2 e3]; exact n1
            have := ab.gf b (by
              rw [Fp_none b gpn]
              unfold Tr.hold
              split
              · rename_i hb
                exact absurd (a.st.fr b hb) h1
              · exact h1) gpn
            rw [this] at e2
            cases e2
    · cases e1 : G1 b with
      | some u => rw [Gq_in b u e1]; exact e
      | none =>
        by_cases z1 : b = fa
        · have := ab.gg fa _ Gfa
          rw [z1, this] at e
          cases e
          exact nomatch (show false = true from hd')
        · by_cases z2 : b = ca
          · have := ab.gg ca _ Gca
            rw [z2, this] at e
            cases e
            exact nomatch (show false = true from hd')
          · cases q3 : B.lookup b with
            | some oc =>
              have := ab.gg b _ (GB b oc q3)
              rw [this] at e
              cases e
              exact nomatch (show false = true from hd')
            | none => rw [Gq_out b z1 z2 q3]; exact e
  have hl : us.length = fe.ps.length := by rw [← r.length]; exact gn.len _ _ _ prom
  refine wpAny_call (codeAny_mono (gn.run X.A X.stack s1 Hp' ⟨us, []⟩ us _ _ c.rm g.gd (env_add I2.env0 FB) (by have := hb s1 us I2.kIn (by simpa using hl); rwa [List.append_nil] at this) r prom) fun rr s' hq => ?_)
  obtain ⟨u, rfl, ce⟩ := gn_end hq
  exact I2.after (ce_drop (fun b oc q => ⟨(FB b oc q).1, (FB b oc q).2.1⟩) ce fun v H' _ h => h)
end
end Tr
set_option Elab.async false
set_option linter.all false
set_option maxRecDepth 100000
set_option maxHeartbeats 2000000
namespace Tr
open PySem PySem.Spec PyProof.Rows L2
section
variable {κ : Type} [DecidableEq κ] {G : Hp}
/-- what the dict's object holds shows what the tree holds -/
theorem look_val : ∀ {vs : List (κ × V)} {kvs : List (κ × PyData)} (k : κ), vs.map (·.1) = kvs.map (·.1) → DqAll G (vs.map (·.2)) (kvs.map (·.2)) →
    (lookK kvs k = none ∧ valV vs k = none) ∨ ∃ d v, lookK kvs k = some d ∧ valV vs k = some v ∧ Dq G v d
  | [], [], _, _, _ => .inl ⟨rfl, rfl⟩
  | [], _ :: _, _, e, _ => by simp at e
  | _ :: _, [], _, e, _ => by simp at e
  | p :: vs, q :: kvs, k, e, d => by
    simp only [List.map_cons, List.cons.injEq] at e
    simp only [List.map_cons] at d
    cases d with
    | cons h t =>
      by_cases hk : p.1 = k
      · refine .inr ⟨q.2, p.2, ?_, valV_pos hk, h⟩
        simp [lookK, List.find?_cons, ← e.1, hk]
      · have e1 : lookK (q :: kvs) k = lookK kvs k := by
          have : ¬ q.1 = k := by rw [← e.1]; exact hk
          simp [lookK, List.find?_cons, this]
        rw [e1, valV_neg hk]
        exact look_val k e.2 t
theorem any_keys : ∀ {vs : List (κ × V)} {kvs : List (κ × PyData)} (k : κ), vs.map (·.1) = kvs.map (·.1) → (vs.any fun kv => decide (kv.1 = k)) = (kvs.any fun kv => decide (kv.1 = k))
  | [], [], _, _ => rfl
  | [], _ :: _, _, e => by simp at e
  | _ :: _, [], _, e => by simp at e
  | p :: vs, q :: kvs, k, e => by
    simp only [List.map_cons, List.cons.injEq] at e
    rw [List.any_cons, List.any_cons, any_keys k e.2, e.1]
theorem repl_keys {v : V} {d : PyData} (hv : Dq G v d) : ∀ {vs : List (κ × V)} {kvs : List (κ × PyData)} (k : κ), vs.map (·.1) = kvs.map (·.1) → DqAll G (vs.map (·.2)) (kvs.map (·.2)) →
    (vs.map fun kv => if kv.1 = k then (kv.1, v) else kv).map (·.1) = (kvs.map fun kv => if kv.1 = k then (kv.1, d) else kv).map (·.1) ∧
    DqAll G ((vs.map fun kv => if kv.1 = k then (kv.1, v) else kv).map (·.2)) ((kvs.map fun kv => if kv.1 = k then (kv.1, d) else kv).map (·.2))
  | [], [], _, _, _ => ⟨rfl, .nil⟩
  | [], _ :: _, _, e, _ => by simp at e
  | _ :: _, [], _, e, _ => by simp at e
  | p :: vs, q :: kvs, k, e, dq => by
    simp only [List.map_cons, List.cons.injEq] at e
    simp only [List.map_cons] at dq
    cases dq with
    | cons h t =>
      obtain ⟨h1, h2⟩ := repl_keys hv k e.2 t
      by_cases hk : p.1 = k
      · have hq : q.1 = k := by rw [← e.1]; exact hk
        simp only [List.map_cons, if_pos hk, if_pos hq]
        exact ⟨by rw [h1, e.1], .cons hv h2⟩
      · have hq : ¬ q.1 = k := by rw [← e.1]; exact hk
        simp only [List.map_cons, if_neg hk, if_neg hq]
        exact ⟨by rw [h1, e.1], .cons h h2⟩
theorem put_keys {v : V} {d : PyData} (hv : Dq G v d) {vs : List (κ × V)} {kvs : List (κ × PyData)} (k : κ) (e : vs.map (·.1) = kvs.map (·.1)) (dq : DqAll G (vs.map (·.2)) (kvs.map (·.2))) :
    (putK vs k v).map (·.1) = (putD kvs k d).map (·.1) ∧ DqAll G ((putK vs k v).map (·.2)) ((putD kvs k d).map (·.2)) := by
  unfold putK putD
  rw [any_keys k e]
  split
  · exact repl_keys hv k e dq
  · rw [List.map_append, List.map_append, e, List.map_append, List.map_append]
    refine ⟨rfl, ?_⟩
    have app : ∀ {us ws : List V} {xs ys : List PyData}, DqAll G us xs → DqAll G ws ys → DqAll G (us ++ ws) (xs ++ ys) := by
      intro us ws xs ys h1 h2
      induction us generalizing xs with
      | nil => cases h1; exact h2
      | cons u us ih => cases h1 with | cons a b => exact .cons a (ih b)
    exact app dq (.cons hv .nil)
theorem keyOf_eq {d : PyData} {k : Key} {v : V} (h : keyOf d = some k) (dq : Dq G v d) : v = kV k := by
  cases dq <;> first | (cases h; rfl) | cases h
end
section
variable {K : PySem.W.Frag} {F G H : Hp} {σ : L2.St} {ρ : Env'} {L M : List Addr}
/-- a name's own dict, as it stands, and how it is written -/
theorem Sta.mapd {i : Nat} {m : Dm} (s : Sta K F G H ρ σ L) (e : ρ[i]? = some (some (.map m))) : ∃ a o, σ[i]? = some (some (.ref a)) ∧ H a = some o ∧ DmOk G m o ∧ a ∈ L ∧
    ∀ {m' : Dm} {o' : HO}, DmOk G m' o' → ∃ L', Aft K F G G (upd H a o') (ρ.set i (some (.map m'))) σ L' := by
  obtain ⟨v, P, M, S, e1, e2, r, put, _⟩ := s.sr.at e
  cases r with
  | map hA hG r =>
    rename_i a o
    have nd := s.nd
    rw [e1] at nd
    obtain ⟨n1, n2, n3⟩ := nodup_mid nd
    have aL : a ∈ L := by rw [e1]; simp
    have PL : ∀ b ∈ P ++ S, b ∈ L := fun b hb => by rw [e1]; exact mem_mid.mpr (.inl hb)
    have neP : ∀ b ∈ P ++ S, b ≠ a := fun b hb z => n3 a (by simp) (z ▸ hb)
    refine ⟨a, o, e2, hA, r, aL, fun {m' o'} r' => ?_⟩
    have put' := put (G' := G) (H' := upd H a o') (x' := .map m') (v' := .ref a) (M' := [a]) (Same.refl _) (fun b hb => upd_ne (neP b hb)) (fun b hb => (s.sr.there b (PL b hb)).2) (.map upd_same hG r')
    rw [set_same e2] at put'
    refine ⟨P ++ [a] ++ S, ⟨⟨put', ?_, fun b hb => s.fr b (by rw [e1]; exact hb), fun b x q => ?_, fun b x q => ?_, tabs_writeO s.tb hA r.own, s.nt, s.ng⟩, Same.refl _, fun _ _ h => h⟩⟩
    · have := s.nd
      rwa [e1] at this
    · rw [upd_ne (fun z => by rw [z, s.fr a aL] at q; cases q)]; exact s.fh b x q
    · rw [upd_ne (fun z => by rw [z, hG] at q; cases q)]; exact s.gh b x q
theorem dm_get {m : Dm} {o : HO} {a : Addr} {d : PyData} {od : Option PyData} {v : V} (hA : H a = some o) (r : DmOk G m o) (dq : Dq G v d) (h : m.get d = some od) :
    (od = none ∧ DGet H a v none) ∨ ∃ x u, od = some x ∧ DGet H a v (some u) ∧ Dq G u x := by
  cases r with
  | t _ _ => cases h
  | k e ds =>
    rename_i kvs vs
    have h : (keyOf d).map (lookK kvs) = some od := h
    cases hk : keyOf d with
    | none => rw [hk] at h; cases h
    | some k =>
      rw [hk] at h
      have h : lookK kvs k = od := Option.some.inj h
      have ev := keyOf_eq hk dq
      subst ev
      have g := DGet.k (k := k) hA
      rcases look_val k e ds with ⟨h1, h2⟩ | ⟨x, u, h1, h2, h3⟩
      · rw [h2] at g
        exact .inl ⟨by rw [← h, h1], g⟩
      · rw [h2] at g
        exact .inr ⟨x, u, by rw [← h, h1], g, h3⟩
theorem dm_put {m m' : Dm} {o : HO} {a : Addr} {d x : PyData} {v u : V} (hA : H a = some o) (r : DmOk G m o) (dq : Dq G v d) (hu : Dq G u x) (hs : m.size < sizeLine) (h : m.put d x = some m') :
    ∃ o', DPut H a v u (upd H a o') ∧ DmOk G m' o' := by
  cases r with
  | t _ _ => cases h
  | k e ds =>
    rename_i kvs vs
    have h : (keyOf d).map (fun k => Dm.k (putD kvs k x)) = some m' := h
    cases hk : keyOf d with
    | none => rw [hk] at h; cases h
    | some k =>
      rw [hk] at h
      have h : Dm.k (putD kvs k x) = m' := Option.some.inj h
      subst h
      have ev := keyOf_eq hk dq
      subst ev
      have hl : vs.length < sizeLine := by
        have : vs.length = kvs.length := by
          have := congrArg List.length e
          simpa using this
        rw [this]
        exact hs
      obtain ⟨h1, h2⟩ := put_keys hu k e ds
      exact ⟨_, .k hA hl, .k h1 h2⟩
end
section
variable {Γ : Gam} {N : List Str} {sc : Scope} {X : Cx} {l r u e : Expr} {pos : Pos} {w w1 w2 : WE} {kp : Option Nat}
theorem nosl_plain {e : Expr} (h : plainE e = true) : NoSl e := by
  intro ov iv
  cases e <;> first | rfl | cases h
theorem e_dnew : PE X (.Dict [] [] pos) (lift X.K fun ρ Q => Q (.map (.k [])) ρ) := by
  refine PE.imp pe_dnewK fun σ H R ⟨F, G, ρ, L, Q, s, hq, k⟩ => fun p hp => ?_
  refine k (.map (.k [])) (.ref p) ρ G _ L [p] (s.made hp) ⟨.map upd_same (s.gh.free hp) (.k rfl .nil), by simp, fun b hb => ?_, fun b hb => ?_⟩ hq
  · rw [List.mem_singleton.mp hb]
    exact s.fh.free hp
  · rw [List.mem_singleton.mp hb]
    intro hl
    obtain ⟨⟨x, hx⟩, _⟩ := s.sr.there p hl
    rw [hp] at hx
    cases hx
theorem e_dget {i : Nat} (g : Gd Γ N sc X) (hv : okSE N sc (.var i) l = true) (ha : PE X r (lift X.K w)) (pl : plainE r = true) :
    PE X (.Subscript l r pos) (lift X.K fun ρ Q => (∃ m, ρ[i]? = some (some (.map m))) ∧ w ρ fun y ρ1 => ∃ m d v, ρ1[i]? = some (some (.map m)) ∧ y = .d d ∧ m.get d = some (some v) ∧ Q (.d v) ρ1) := by
  obtain ⟨z, p, rfl, h⟩ := okSE_var hv
  refine PE.imp (pe_dget (Nat.lt_of_le_of_lt (by omega) g.un) (e_name g h) ha (nosl_plain pl)) fun σ H R ⟨F, G, ρ, L, Q, st, ⟨⟨m0, ex0⟩, hw⟩, k⟩ => ?_
  obtain ⟨a0, o0, ev0, _⟩ := st.mapd ex0
  refine ⟨.ref a0, ev0, F, G, ρ, L, _, st, hw, fun y u ρ1 G1 H1 L1 M b q ⟨m, d, v, ex, ey, hg, hq⟩ => ?_⟩
  subst ey
  obtain ⟨a, o, ev, hA, rm, _⟩ := b.st.mapd ex
  rw [ev0] at ev
  cases ev
  rcases dm_get hA rm q.r.dq.1 hg with ⟨e1, _⟩ | ⟨x, uu, e1, gg, dx⟩
  · cases e1
  · cases e1
    exact ⟨a0, uu, rfl, gg, (Kont.step k b).data b.st dx hq⟩
theorem e_din {i : Nat} (g : Gd Γ N sc X) (hv : okSE N sc (.var i) l = true) (ha : PE X r (lift X.K w)) (pl : plainE l = true) :
    PB X (.Compare r [.In] [l] pos) (fun ρ Q => w ρ fun y ρ1 => ∃ m d o, ρ1[i]? = some (some (.map m)) ∧ y = .d d ∧ m.get d = some o ∧ Q (.d (.bool o.isSome)) ρ1) := by
  obtain ⟨z, p, rfl, h⟩ := okSE_var hv
  have main : ∀ σ H R, lift X.K (fun ρ Q => w ρ fun y ρ1 => ∃ m d o, ρ1[i]? = some (some (.map m)) ∧ y = .d d ∧ m.get d = some o ∧ Q (.d (.bool o.isSome)) ρ1) σ H R → tDIn (lift X.K w) (tVar i) σ H R := by
    rintro σ H R ⟨F, G, ρ, L, Q, st, hw, k⟩
    refine ⟨F, G, ρ, L, _, st, hw, fun y u ρ1 G1 H1 L1 M b q ⟨m, d, od, ex, ey, hg, hq⟩ => ?_⟩
    subst ey
    obtain ⟨a, o, ev, hA, rm, _⟩ := b.st.mapd ex
    refine ⟨.ref a, ev, a, ?_⟩
    rcases dm_get hA rm q.r.dq.1 hg with ⟨e1, gg⟩ | ⟨x, uu, e1, gg, dx⟩
    · subst e1
      exact ⟨none, rfl, gg, (Kont.step k b).data b.st (.bl _) hq⟩
    · subst e1
      exact ⟨some uu, rfl, gg, (Kont.step k b).data b.st (.bl _) hq⟩
  have hu : X.A.units + 1 < cLine := Nat.lt_of_le_of_lt (by omega) g.un
  exact ⟨PE.imp (pe_cmp (pc_din hu ha (e_name g h)) (behind_plain pl)) main, PT.imp (pt_cmp (pc_din hu ha (e_name g h)) (behind_plain pl)) fun σ H R q => main σ H _ q⟩
theorem trees2 {env : Env} (pl : plainE r = true) (pu : plainE u = true) : backTo pos (starEach [r, u] env) = [(false, eval r env), (false, eval u env)] := by
  rw [starEach_plain pl, starEach_plain pu]
  rfl
theorem few2 {env : Env} (pl : plainE r = true) (pu : plainE u = true) : ((backTo pos (starEach [r, u] env)).all (fun x => !x.1) && (backToKw pos (keywordEach [] env)).all (fun x => x.1.isSome)
    && decide (([r, u] : List Expr).length + ([] : List Keyword).length + (if ([] : List Keyword).isEmpty then 0 else 1) < 30)) = true := by
  rw [trees2 pl pu]
  rfl
theorem e_dgd {i : Nat} {apos : Pos} (g : Gd Γ N sc X) (hv : okSE N sc (.var i) l = true) (ha : PE X r (lift X.K w1)) (pl : plainE r = true) (hb : PE X u (lift X.K w2)) (pu : plainE u = true) (hline : (apos.endLine == pos.line) = true) :
    PE X (.Call (.Attribute l "get" apos) [r, u] [] pos) (lift X.K fun ρ Q => (∃ kvs, ρ[i]? = some (some (.map (.k kvs)))) ∧ w1 ρ fun y ρ1 => w2 ρ1 fun z ρ2 => ∃ m d e o, ρ2[i]? = some (some (.map m)) ∧ y = .d d ∧ z = .d e ∧ m.get d = some o ∧ Q (.d (o.getD e)) ρ2) := by
  have at' := attrV (name := "get") (env := X.env) hv
  obtain ⟨z, p, rfl, h⟩ := okSE_var hv
  refine PE.imp (pe_dget2 (Nat.lt_of_le_of_lt (by omega) g.un) (e_name g h) ha hb ⟨at', few2 pl pu, hline, trees2 pl pu⟩) fun σ H R ⟨F, G, ρ, L, Q, st, ⟨⟨m0, ex0⟩, hw⟩, k⟩ => ?_
  obtain ⟨a0, o0, ev0, hA0, rm0, _⟩ := st.mapd ex0
  refine ⟨.ref a0, ev0, a0, rfl, ?_, F, G, ρ, L, _, st, hw, fun y v ρ1 G1 H1 L1 M a q hw2 => ?_⟩
  · cases rm0 with
    | k _ _ => exact .inl ⟨_, .inl hA0⟩
  refine ⟨Tr.hold F H1 M, G1, ρ1, L1, _, a.st.hold q, hw2, fun x v2 ρ2 G2 H2 L2 M2 b q2 ⟨m, d, e, od, ex, ey, ez, hg, hq⟩ => ?_⟩
  obtain ⟨b1, q1⟩ := Aft.held q b
  subst ey ez
  obtain ⟨a1, o, ev, hA, rm, _⟩ := b1.st.mapd ex
  rw [ev0] at ev
  cases ev
  rcases dm_get hA rm q1.r.dq.1 hg with ⟨e1, gg⟩ | ⟨x, uu, e1, gg, dx⟩
  · subst e1
    exact ⟨none, gg, (Kont.step k (a.trans b1)).data b1.st q2.r.dq.1 hq⟩
  · subst e1
    exact ⟨some uu, gg, (Kont.step k (a.trans b1)).data b1.st dx hq⟩
theorem s_dput (g : Gd Γ N sc X) {i : Nat} {a b : Expr} {p : Pos} (ha : okSE N sc (.var i) a = true) (hb : PE X b (lift X.K w1)) (pb : plainE b = true) (he : PE X e (lift X.K w)) :
    PSt kp X (.Assign [.Subscript a b p] e pos) (fun D ρ => w ρ fun y ρ1 => ∃ v, y = .d v ∧ (∃ m, ρ1[i]? = some (some (.map m))) ∧ w1 ρ1 fun z ρ2 => ∃ m d m', z = .d d ∧ ρ2[i]? = some (some (.map m)) ∧ m.size < sizeLine ∧ m.put d v = some m' ∧ D.nx (ρ2.set i (some (.map m')))) := by
  obtain ⟨z, pz, rfl, h⟩ := okSE_var ha
  refine PS.imp (ps_dput (Nat.lt_of_le_of_lt (by omega) g.un) (e_name g h) hb he (sole_sub (o := .Name z pz) (i := b) (p := p) (line := pos.line) (env := X.env))) fun D σ H ⟨F, G, ρ, L, D', s, hw, kt⟩ => ?_
  refine ⟨F, G, ρ, L, _, s, hw, fun y u ρ1 G1 H1 L1 M a q ⟨d, e0, ⟨m0, ex0⟩, hw1⟩ => ?_⟩
  subst e0
  obtain ⟨ad0, o0, ev0, _⟩ := a.st.mapd ex0
  refine ⟨.ref ad0, ev0, F, G1, ρ1, L1, _, a.st, hw1, fun z v ρ2 G2 H2 L2 M2 b q2 ⟨m, x, m', e1, ex, hs, hp, hq⟩ => ?_⟩
  subst e1
  obtain ⟨ad, o, ev, hA, rm, aL, wr⟩ := b.st.mapd ex
  rw [ev0] at ev
  cases ev
  obtain ⟨o', hput, rm'⟩ := dm_put hA rm q2.r.dq.1 (q.r.dq.1.grow b.gg) hs hp
  obtain ⟨L2', c⟩ := wr rm'
  exact ⟨ad0, _, rfl, hput, kt.nx _ _ _ _ L2' (Aft.trans' (Aft.trans' a b) c) kept.refl hq⟩
end
end Tr
set_option Elab.async false
set_option linter.all false
set_option maxRecDepth 100000
set_option maxHeartbeats 2000000
namespace Tr
open PySem PySem.Spec PyProof.Rows L2
section
variable {X : Cx} {pins : List (Addr × Obj)} {σ : L2.St} {H G : Hp} {s : Shared}
theorem items_ints {P : Program} {w : World} : ∀ {ks : List Int} {its : List Value}, Vals (ks.map V.int) its → ItemsAre (PySem.intKind P w) ks its
  | [], _, .nil => .nil
  | k :: ks, _, .cons r t => by
    obtain ⟨u, rfl⟩ := r
    exact .cons (by simp [PySem.intKind, Value.isInt]) (items_ints t)
theorem tkey_of (I : Inv X pins σ H s) (g : Same G H) {ks : List Int} {a : Addr} (h : TupG G a (ks.map V.int)) : (PySem.tupleKind (PySem.intKind X.prog X.w)).is s.heap ks a := by
  obtain ⟨o, e, _⟩ := (h.grow g)
  obtain ⟨e1, _, its, r, o2, h1, h2, n, h3⟩ := (show ObjOk X.prog X.w H s.heap a (.frz o (.tup (ks.map V.int))) from I.hok a _ e)
  exact ⟨o2, its.toArray, n, h1, h2, h3, by simpa using items_ints r⟩
/-- the dict, as the kit has it -/
theorem tdict_of (I : Inv X pins σ H s) (g : Same G H) {a : Addr} {kvs : List (List Int × PyData)} {ob : HO} (hA : H a = some ob) (h : DmOk G (.t kvs) ob) :
    ∃ xs : List (List Int × Addr × Value), ∃ vs : List V, s.heap.DictOfH (PySem.tupleKind (PySem.intKind X.prog X.w)) a xs ∧ xs.map (·.1) = kvs.map (·.1) ∧ Vals vs (xs.map (·.2.2)) ∧ DqAll G vs (kvs.map (·.2)) := by
  cases h with
  | t h1 h2 h3 h4 h5 h6 h7 h8 =>
    rename_i xs vs o u es ep
    obtain ⟨e1, _⟩ := (show ObjOk X.prog X.w H s.heap a (.frz o u) from I.hok a _ hA)
    exact ⟨xs, vs, ⟨o, es, ep, e1, h1, h2, h3 _ _, fun x hx => tkey_of I g (h5 x hx), h4⟩, h6, h7, h8⟩
theorem tlook : ∀ {xs : List (List Int × Addr × Value)} {vs : List V} {kvs : List (List Int × PyData)} {ks : List Int} {d : PyData}, xs.map (·.1) = kvs.map (·.1) → Vals vs (xs.map (·.2.2)) → DqAll G vs (kvs.map (·.2)) → lookK kvs ks = some d →
    ∃ p : Addr × Value, ∃ v : V, atKey xs ks = some p ∧ RelV v p.2 ∧ Dq G v d
  | [], _, [], _, _, _, _, _, e => by cases e
  | [], _, _ :: _, _, _, h, _, _, _ => by simp at h
  | _ :: _, _, [], _, _, h, _, _, _ => by simp at h
  | x :: xs, _, q :: kvs, ks, d, h, .cons r t, .cons hd ht, e => by
    simp only [List.map_cons, List.cons.injEq] at h
    by_cases hk : x.1 = ks
    · have hq : q.1 = ks := by rw [← h.1]; exact hk
      have e1 : lookK (q :: kvs) ks = some q.2 := by simp [lookK, List.find?_cons, hq]
      rw [e1] at e
      cases e
      exact ⟨x.2, _, by simp [atKey, List.find?_cons, hk], r, hd⟩
    · have hq : ¬ q.1 = ks := by rw [← h.1]; exact hk
      have e1 : lookK (q :: kvs) ks = lookK kvs ks := by simp [lookK, List.find?_cons, hq]
      have e2 : atKey (x :: xs) ks = atKey xs ks := by simp [atKey, List.find?_cons, hk]
      rw [e1] at e
      obtain ⟨p, v, h1, h2, h3⟩ := tlook h.2 t ht e
      exact ⟨p, v, by rw [e2]; exact h1, h2, h3⟩
theorem tkOf_eq {d : PyData} {ks : List Int} (h : tkOf d = some ks) : d = .tuple (ks.map .int) := by
  cases d with
  | tuple xs =>
    have : ∀ {xs : List PyData} {ks : List Int}, intsOf xs = some ks → xs = ks.map .int := by
      intro xs
      induction xs with
      | nil => intro ks e; cases e; rfl
      | cons x xs ih =>
        intro ks e
        cases x with
        | int i =>
          rw [intsOf] at e
          obtain ⟨ms, e1, e2⟩ := Option.map_eq_some_iff.mp e
          subst e2
          rw [List.map_cons, ← ih e1]
        | _ => cases e
    rw [this h]
  | _ => cases h
theorem dq_intsT : ∀ {ks : List Int} {vs : List V}, DqAll G vs (ks.map .int) → vs = ks.map V.int
  | [], _, .nil => rfl
  | k :: ks, _, .cons h t => by
    cases h
    rw [List.map_cons, dq_intsT t]
/-- d[key] -/
theorem pe_dgt {o i : Expr} {pos : Pos} {td ty : TE} (hu : X.A.units + 1 < cLine) (ho : PE X o td) (hi : PE X i ty) (hs : NoSl i) :
    PE X (.Subscript o i pos) (fun σ H Q => td σ H fun x H1 => ty σ H1 fun y H2 => ∃ G a b kvs ob ks d, x = .ref a ∧ y = .ref b ∧ Same G H2 ∧ H2 a = some ob ∧ DmOk G (.t kvs) ob ∧ TupG G b (ks.map V.int) ∧ lookK kvs ks = some d ∧ ∀ v, Dq G v d → Q v H2) := by
  refine ⟨fun pins s σ H Q I h => ?_⟩
  refine subD_of PySem.F.slot_dict_getitem.lookup hs (thn (ho.run pins s σ H _ I h) fun u s1 ⟨x, H1, I1, rx, q1⟩ => thn (hi.run pins s1 σ H1 _ I1 q1) fun iv s2 ⟨y, H2, I2, ry, G, a, b, kvs, ob, ks, d, ex, ey, g, hA, hm, hb, hl, q2⟩ => ?_)
  subst ex ey
  obtain rfl : u = Value.ref a := rx
  obtain rfl : iv = Value.ref b := ry
  obtain ⟨xs, vs, hd, e1, e2, e3⟩ := tdict_of I2 g hA hm
  obtain ⟨p, v, h1, h2, h3⟩ := tlook e1 e2 e3 hl
  exact ⟨hd.typeIs, wpAny_getItem_heap (tupleKind_room_in1 hu) (tkey_of I2 g hb) hd h1 ⟨v, H2, I2.tok _, h2, q2 v h3⟩⟩
end
section
variable {Γ : Gam} {N : List Str} {sc : Scope} {X : Cx} {l r : Expr} {pos px : Pos} {w w1 : WE}
theorem e_dgt {i : Nat} (g : Gd Γ N sc X) (hv : okSE N sc (.var i) l = true) (ha : PE X r (lift X.K w)) (pl : plainE r = true) :
    PE X (.Subscript l r pos) (lift X.K fun ρ Q => (∃ kvs, ρ[i]? = some (some (.map (.t kvs)))) ∧ w ρ fun y ρ1 => ∃ kvs d ks v, ρ1[i]? = some (some (.map (.t kvs))) ∧ y = .d d ∧ tkOf d = some ks ∧ lookK kvs ks = some v ∧ Q (.d v) ρ1) := by
  obtain ⟨z, p, rfl, h⟩ := okSE_var hv
  refine PE.imp (pe_dgt (Nat.lt_of_le_of_lt (by omega) g.un) (e_name g h) ha (nosl_plain pl)) fun σ H R ⟨F, G, ρ, L, Q, st, ⟨⟨m0, ex0⟩, hw⟩, k⟩ => ?_
  obtain ⟨a0, o0, ev0, _⟩ := st.mapd ex0
  refine ⟨.ref a0, ev0, F, G, ρ, L, _, st, hw, fun y u ρ1 G1 H1 L1 M b q ⟨kvs, d, ks, v, ex, ey, hk, hl, hq⟩ => ?_⟩
  subst ey
  obtain ⟨a, o, ev, hA, rm, _⟩ := b.st.mapd ex
  rw [ev0] at ev
  cases ev
  have e := tkOf_eq hk
  subst e
  obtain ⟨c, us, rfl, hc, hd⟩ := q.r.dq.1.tup_of
  rw [dq_intsT hd] at hc
  exact ⟨G1, a0, c, kvs, o, ks, v, rfl, rfl, b.st.gh, hA, rm, hc, hl, fun v' hv' => (Kont.step k b).data b.st hv' hq⟩
end
theorem tprs_cons {d : PyData} {xs : List PyData} {kvs : List (List Int × PyData)} (h : tprs (d :: xs) = some kvs) : ∃ k v ks rs, d = .tuple [k, v] ∧ tkOf k = some ks ∧ tprs xs = some rs ∧ kvs = (ks, v) :: rs := by
  cases d with
  | tuple ys =>
    match ys, h with
    | [k, v], h =>
      rw [tprs] at h
      cases e1 : tkOf k with
      | none => rw [e1] at h; cases h
      | some ks =>
        cases e2 : tprs xs with
        | none => rw [e1, e2] at h; cases h
        | some rs =>
          rw [e1, e2] at h
          cases h
          exact ⟨k, v, ks, rs, rfl, e1, rfl, rfl⟩
    | [], h => cases h
    | [_], h => cases h
    | _ :: _ :: _ :: _, h => cases h
  | _ => cases h
section
variable {X : Cx} {pins : List (Addr × Obj)} {σ : L2.St} {H G : Hp} {s : Shared}
theorem tpairs_at (I : Inv X pins σ H s) (g : Same G H) : ∀ {vs : List V} {xs : List PyData} {kvs : List (List Int × PyData)} {its : List Value}, DqAll G vs xs → tprs xs = some kvs → Vals vs its →
    ∃ L : List (Addr × Addr × List Int × V × Value), its = L.map (fun t => .ref t.1) ∧ (∀ t ∈ L, s.heap.IsTuple t.1 #[.ref t.2.1, t.2.2.2.2] ∧ TupG G t.2.1 (t.2.2.1.map V.int)) ∧
      L.map (·.2.2.1) = kvs.map (·.1) ∧ Vals (L.map (·.2.2.2.1)) (L.map (·.2.2.2.2)) ∧ DqAll G (L.map (·.2.2.2.1)) (kvs.map (·.2))
  | _, _, kvs, _, .nil, h, .nil => by
    cases h
    exact ⟨[], rfl, fun t ht => (nomatch ht), rfl, .nil, .nil⟩
  | _, _, kvs, _, .cons (v := v) (d := d) h1 h2, h, .cons r1 r2 => by
    obtain ⟨ka, va, ks, rs, e0, e1, e2, e5⟩ := tprs_cons h
    subst e0 e5
    · obtain ⟨L, q1, q2, q3, q4, q5⟩ := tpairs_at I g h2 e2 r2
      obtain ⟨a, zs, rfl, ta, da⟩ := h1.tup_of
      cases r1
      cases da with
      | cons d1 da =>
        cases da with
        | cons d2 da =>
          rename_i w2 _
          cases da
          have e3 := tkOf_eq e1
          subst e3
          obtain ⟨c, us, rfl, hc, hd⟩ := d1.tup_of
          rw [dq_intsT hd] at hc
          obtain ⟨o, e4, _⟩ := (ta.grow g)
          obtain ⟨_, _, its2, rv, pt⟩ := (show ObjOk X.prog X.w H s.heap a (.frz o (.tup _)) from I.hok a _ e4)
          cases rv with
          | cons r3 rv =>
            cases rv with
            | cons r4 rv =>
              cases rv
              cases r3
              rename_i u4
              refine ⟨(a, c, ks, w2, u4) :: L, by rw [q1]; rfl, fun t ht => ?_, ?_, ?_, ?_⟩
              · rcases List.mem_cons.mp ht with e | ht
                · rw [e]
                  exact ⟨pt, hc⟩
                · exact q2 t ht
              · rw [List.map_cons, List.map_cons, q3]
              · exact .cons r4 q4
              · exact .cons d2 q5
theorem ent_any (P P' : Program) (w w' : World) (x : List Int × Addr × Value) : entryOfKey (PySem.tupleKind (PySem.intKind P w)) x = entryOfKey (PySem.tupleKind (PySem.intKind P' w')) x := by
  unfold entryOfKey
  congr 1
theorem cr_dictL (hc : X.calm = true) (hu : X.A.units + 200 < cLine) : CallR X (.type "dict") (fun vs H R => ∃ v, vs = [v] ∧ ∃ G xs kvs, Same G H ∧ Dq G v (.list xs) ∧ tprs xs = some kvs ∧ (kvs.map (·.1)).Nodup ∧ kvs.length ≤ 1000 ∧ ∀ ob p, H p = none → DmOk G (.t kvs) ob → R (.ref p) (upd H p ob)) := by
  intro pins s σ H vs us Q I r h
  obtain ⟨v, rfl, G, xs, kvs, g, dv, ht, hn, hl, q⟩ := h
  obtain ⟨a, zs, rfl, ga, da⟩ := dv.lst_of
  rw [Vals.ref1 r]
  obtain ⟨_, its, n, rv, ho⟩ := I.hok a _ (g _ _ ga)
  obtain ⟨L, q1, q2, q3, q4, q5⟩ := tpairs_at I g da ht rv
  have hlen : L.length = kvs.length := by
    have := congrArg List.length q3
    simpa using this
  have hsz : kvs.length ≤ sizeLine := by rw [sizeLine_eq]; omega
  have Pa := PairArg.list (prog := X.prog) (w := X.w) a its.toArray (fun j => ((L[j]?).map (·.1)).getD 0) (L.map fun t => (Value.ref t.2.1, t.2.2.2.2))
  refine call_dict_pairsH (knd := PySem.tupleKind (PySem.intKind X.prog X.w)) (ps := L.map fun t => (t.2.2.1, t.2.1, t.2.2.2.2)) Pa (I.ok.hd hc) (show X.A.in1.in1.units < cLine from ?_) ⟨⟨_, n, ho, rfl, rfl, rfl⟩, ?_, fun j k v hj => ?_⟩ ⟨?_, fun i key v hr => ?_⟩ (fun h' hk x hx => ?_) ?_ fun h' tk hd hk => ?_
  · exact Nat.lt_of_le_of_lt (by show X.A.units + 1 + 1 ≤ _; exact Nat.le_refl _) (Nat.lt_of_le_of_lt (by omega) hu)
  · rw [q1]
    simp
  · rw [List.getElem?_map] at hj
    obtain ⟨t, ht, e⟩ := Option.map_eq_some_iff.mp hj
    cases e
    refine ⟨?_, ?_⟩
    · rw [q1]
      simp [ht]
    · show PairAt s.heap (((L[j]?).map (·.1)).getD 0) _ _
      rw [ht]
      exact .inl (q2 t (List.mem_of_getElem? ht)).1
  · simp
  · have hr : (L.map fun t => (Value.ref t.2.1, t.2.2.2.2))[i]? = some (key, v) := hr
    rw [List.getElem?_map] at hr
    obtain ⟨t, ht, e⟩ := Option.map_eq_some_iff.mp hr
    cases e
    exact ⟨t.2.2.1, t.2.1, by rw [List.getElem?_map, ht]; rfl, rfl⟩
  · obtain ⟨t, ht, rfl⟩ := List.mem_map.mp hx
    obtain ⟨o, items, m, h1, h2⟩ := tkey_of I g (q2 t ht).2
    exact ⟨o, items, m, hk _ _ (Nat.ne_of_lt (Heap.lt_size h1)) (by simp) h1, h2⟩
  · simpa [hlen] using hsz
  · have hnd : ((L.map fun t => (t.2.2.1, t.2.1, t.2.2.2.2)).map (·.1)).Nodup := by
      rw [List.map_map]
      have e : L.map ((fun x : List Int × Addr × Value => x.1) ∘ fun t : Addr × Addr × List Int × V × Value => (t.2.2.1, t.2.1, t.2.2.2.2)) = kvs.map (·.1) := q3
      rw [e]
      exact hn
    rw [storedAllH_nil_of_nodup _ hnd] at hd
    obtain ⟨o, es, ep, h1, h2, h3, h4, _, _⟩ := hd
    have kk : ∀ b u, s.heap.get? b = some u → h'.get? b = some u := fun b u e => hk b u (by simp) e
    have hm : DmOk G (.t kvs) (.frz o (.ext fun h => ∃ o, h.get? s.heap.objs.size = some o)) := by
      refine .t (xs := L.map fun t => (t.2.2.1, t.2.1, t.2.2.2.2)) (vs := L.map (·.2.2.2.1)) h2 h3 (fun P w => h4.trans (List.map_congr_left fun x _ => ent_any _ _ _ _ x)) hnd (fun x hx => ?_) ?_ ?_ q5
      · obtain ⟨t, ht, rfl⟩ := List.mem_map.mp hx
        exact (q2 t ht).2
      · rw [List.map_map]
        exact q3
      · rw [List.map_map]
        exact q4
    refine ⟨.ref _, upd H s.heap.objs.size (.frz o (.ext fun h => ∃ o, h.get? s.heap.objs.size = some o)), I.laid (t' := tk) kk (Nat.le_refl _) ⟨h1, ⟨o, h1⟩, ⟨o, h1⟩, fun h1 h2 ⟨o, e⟩ k => ⟨o, k o e⟩⟩, rfl, q _ _ (I.hok.fresh (Nat.le_refl _)) hm⟩
end
section
variable {Γ : Gam} {N : List Str} {sc : Scope} {X : Cx} {l r : Expr} {pos px : Pos} {w w1 : WE}
theorem e_dmk (g : Gd Γ N sc X) {f : Str} (hf : f = "dict") (hg : glB sc f = true) (ha : PE X l (lift X.K w)) (pl : plainE l = true) :
    PE X (.Call (.Name f px) [l] [] pos) (lift X.K fun ρ Q => w ρ fun x ρ1 => ∃ xs kvs, x.frz = some (.list xs) ∧ tprs xs = some kvs ∧ (kvs.map (·.1)).Nodup ∧ kvs.length ≤ 1000 ∧ Q (.map (.t kvs)) ρ1) := by
  subst hf
  have sp := starEach_plain (es := []) (env := X.env) pl
  have pa : PA X [l] (tCons (lift X.K w) tNil) := pa_cons ha pa_nil sp
  refine PE.imp (pe_callTy (cr_dictL g.calm g.un) (g.glo hg) (g.bl _ (by decide)) (by decide +kernel) pa (by decide) (by decide) sp rfl) fun σ H R ⟨F, G, ρ, L, Q, s, hw, k⟩ => ?_
  refine ⟨F, G, ρ, L, _, s, hw, fun x v ρ1 G1 H1 L1 M a q ⟨xs, kvs, hx, ht, hn, hl, hq⟩ => ?_⟩
  obtain ⟨b, dq⟩ := a.st.frozen q hx
  refine ⟨v, rfl, _, xs, kvs, b.st.gh, dq, ht, hn, hl, fun ob p hp hm => ?_⟩
  have st := b.st
  refine Kont.step k (a.trans b) (.map (.t kvs)) (.ref p) ρ1 _ _ L1 [p] (st.made hp) ⟨.map upd_same (st.gh.free hp) hm, by simp, fun c hc => ?_, fun c hc => ?_⟩ hq
  · rw [List.mem_singleton.mp hc]
    exact st.fh.free hp
  · rw [List.mem_singleton.mp hc]
    intro hl
    obtain ⟨⟨x, hx⟩, _⟩ := st.sr.there p hl
    rw [hp] at hx
    cases hx
end
end Tr
set_option Elab.async false
set_option linter.all false
set_option maxRecDepth 100000
set_option maxHeartbeats 4000000
namespace Tr
open PySem PySem.Spec PyProof.Rows L2
def operB : Operator → BO → Bool
  | .Add, .add => true | .Sub, .sub => true | .Mult, .mul => true | .FloorDiv, .fdiv => true | .Mod, .mod => true | .Pow, .pow => true
  | _, _ => false
theorem operB_eq {o : Operator} {b : BO} (h : operB o b = true) : o = oper b := by cases o <;> cases b <;> first | rfl | exact nomatch (show false = true from h)
def copB : CmpOp → CO → Bool
  | .Eq, .eq => true | .NotEq, .ne => true | .Lt, .lt => true | .LtE, .le => true | .Gt, .gt => true | .GtE, .ge => true | .In, .inn => true | .NotIn, .nin => true
  | _, _ => false
theorem copB_eq {o : CmpOp} {b : CO} (h : copB o b = true) : o = copOf b := by cases o <;> cases b <;> first | rfl | exact nomatch (show false = true from h)
def ownOf (N : List Str) (vs : List Nat) : List (Str × Nat) := vs.map fun i => ((N[i]?).getD "", i)
theorem ownOf_snd (N : List Str) (vs : List Nat) : (ownOf N vs).map (·.2) = vs := by
  unfold ownOf
  rw [List.map_map]
  exact List.map_id' vs
def Bn.two : Bn → Bool
  | .max2 | .min2 | .suml => true
  | _ => false
mutual
def okE (N : List Str) : Scope → E → Expr → Bool
  | sc, .sim s, x => okSE N sc s x
  | sc, .bin o a b, x => (match x with | .BinOp l op r _ => operB op o && okE N sc a l && okE N sc b r | _ => false)
  | sc, .neg a, x => (match x with | .UnaryOp .USub l _ => okE N sc a l | _ => false)
  | sc, .cmp o a b, x => (match x with | .Compare l [op] [r] _ => copB op o && plainE r && okE N sc a l && okE N sc b r | _ => false)
  | sc, .isN a, x => (match x with | .Compare l [.Is] [.Constant .none _ _] _ => okE N sc a l | _ => false)
  | sc, .notN a, x => (match x with | .Compare l [.IsNot] [.Constant .none _ _] _ => okE N sc a l | _ => false)
  | sc, .chain o o' a b c, x => (match x with | .Compare l [op, op'] [r, d] _ => copB op o && copB op' o' && plainE d && okE N sc a l && okE N sc b r && okE N sc c d | _ => false)
  | sc, .and_ es, x => (match x with | .BoolOp .And (l :: ls) _ => okEL N sc es (l :: ls) | _ => false)
  | sc, .or_ es, x => (match x with | .BoolOp .Or (l :: ls) _ => okEL N sc es (l :: ls) | _ => false)
  | sc, .not_ a, x => (match x with | .UnaryOp .Not l _ => okE N sc a l | _ => false)
  | sc, .ite c a b, x => (match x with | .IfExp d l r _ => okE N sc c d && okE N sc a l && okE N sc b r | _ => false)
  | sc, .tup es, x => (match x with | .Tuple ls _ _ => decide (ls.length ≤ 1000) && okEL N sc es ls | _ => false)
  | sc, .lst es, x => (match x with | .List ls _ => decide (ls.length ≤ 1000) && okEL N sc es ls | _ => false)
  | sc, .idx a b, x => (match x with | .Subscript l r _ => plainE r && okE N sc a l && okE N sc b r | _ => false)
  | sc, .idxV i b, x => (match x with | .Subscript l r _ => plainE r && okSE N sc (.var i) l && okE N sc b r | _ => false)
  | sc, .slice a lo hi, x => (match x with | .Subscript l (.Slice u v none _) _ => okE N sc a l && okOE N sc lo u && okOE N sc hi v | _ => false)
  | sc, .rev a, x => (match x with | .Subscript l (.Slice none none (some (.UnaryOp .USub (.Constant (.int 1) _ _) _)) _) _ => okE N sc a l | _ => false)
  | sc, .callL f ss, x => (match x with | .Call (.Name y _) (l :: ls) [] _ => decide (y = f) && glB sc y && nmB y && !lamB f && okSEs N sc ss (l :: ls) | _ => false)
  | sc, .call f es, x => (match x with | .Call (.Name y _) (l :: ls) [] _ => decide (y = f) && glB sc y && nmB y && !lamB f && okEL N sc es (l :: ls) | _ => false)
  | sc, .callK f ks es, x => (match x with | .Call (.Name y _) [] kws _ => decide (y = f) && glB sc y && nmB y && !lamB f && kwAll kws && decide (kwNames kws = ks) && okEL N sc es (kwVals kws) | _ => false)
  | sc, .blt1 b e, x => (match x with | .Call (.Name y _) [l] [] _ => decide (y = b.nm) && glB sc y && !b.two && plainE l && okE N sc e l | _ => false)
  | sc, .bltv b e, x => (match x with | .Call (.Name y _) [l] [] _ => decide (y = b.nm) && glB sc y && b.scal && plainE l && okE N sc e l | _ => false)
  | sc, .blt2 b e e2, x => (match x with | .Call (.Name y _) [l, r] [] _ => decide (y = b.nm) && glB sc y && b.two && plainE l && plainE r && okE N sc e l && okE N sc e2 r | _ => false)
  | sc, .sortset a, x => (match x with | .Call (.Name y _) [.Call (.Name z _) [l] [] _] [] _ => decide (y = "sorted") && decide (z = "set") && glB sc y && glB sc z && plainE l && okE N sc a l | _ => false)
  | sc, .lrng t .non b, x => (match x with | .Call (.Name y _) [.Call (.Name z _) [l] [] _] [] _ => decide (y = if t then ("tuple" : Str) else ("list" : Str)) && decide (z = "range") && glB sc y && glB sc z && plainE l && okE N sc b l | _ => false)
  | sc, .lrng t (.som a) b, x => (match x with | .Call (.Name y _) [.Call (.Name z _) [l, r] [] _] [] _ => decide (y = if t then ("tuple" : Str) else ("list" : Str)) && decide (z = "range") && glB sc y && glB sc z && plainE l && plainE r && okE N sc a l && okE N sc b r | _ => false)
  | sc, .lc elt tg it c vs, x => (match x with | .ListComp e [⟨tx, iter, ifs, 0⟩] scope _ => blkC N sc scope (ownOf N vs) && okTg N (locB scope) tg tx && (tgVs tg).all (fun i => vs.contains i) && plainE iter && okIt N sc it tx iter && okC N (relS scope sc) c ifs && okE N (relS scope sc) elt e | _ => false)
  | sc, .lcO elt tg i c vs, x => (match x with | .ListComp e [⟨tx, .Name z0 p0, ifs, 0⟩] scope _ => blkC N sc scope (ownOf N vs) && okTg N (locB scope) tg tx && (tgVs tg).all (fun i => vs.contains i) && (decide (N[i]? = some z0) && visB sc z0 && nmB z0) && okC N (relS scope sc) c ifs && okE N (relS scope sc) elt e | _ => false)
  | sc, .pop i a, x => (match x with | .Call (.Attribute l name ap) [r] [] p => decide (name = "pop") && okSE N sc (.var i) l && plainE r && (ap.endLine == p.line) && okE N sc a r | _ => false)
  | sc, .maxd a b, x => (match x with | .Call (.Name y _) [l] [⟨some z, r, _⟩] _ => decide (y = "max") && decide (z = "default") && glB sc y && plainE l && okE N sc a l && okE N sc b r | _ => false)
  | sc, .idxL i a, x => (match x with | .Call (.Attribute l name ap) [r] [] p => decide (name = "index") && okSE N sc (.var i) l && plainE r && (ap.endLine == p.line) && okE N sc a r | _ => false)
  | sc, .idxD i a, x => (match x with | .Call (.Attribute l name ap) [r] [] p => decide (name = "index") && okSE N sc (.var i) l && plainE r && (ap.endLine == p.line) && okE N sc a r | _ => false)
  | sc, .isi a t, x => (match x with | .Call (.Name y _) [l, .Name z _] [] _ => decide (y = "isinstance") && decide (z = t) && glB sc y && tyB z && glB sc z && plainE l && okE N sc a l | _ => false)
  | sc, .fza a, x => okE N sc a x
  | sc, .fzl a, x => okE N sc a x
  | sc, .dmk a, x => (match x with | .Call (.Name y _) [l] [] _ => decide (y = "dict") && glB sc y && plainE l && okE N sc a l | _ => false)
  | sc, .dgt i b, x => (match x with | .Subscript l r _ => plainE r && okSE N sc (.var i) l && okE N sc b r | _ => false)
  | sc, .dnew, x => (match x with | .Dict [] [] _ => true | _ => false)
  | sc, .dget i b, x => (match x with | .Subscript l r _ => plainE r && okSE N sc (.var i) l && okE N sc b r | _ => false)
  | sc, .dgd i b c, x => (match x with | .Call (.Attribute l name ap) [r, u] [] p => decide (name = "get") && okSE N sc (.var i) l && plainE r && plainE u && (ap.endLine == p.line) && okE N sc b r && okE N sc c u | _ => false)
  | sc, .din b i, x => (match x with | .Compare r [.In] [l] _ => plainE l && okSE N sc (.var i) l && okE N sc b r | _ => false)
  | sc, .dct l, x => (match x with | .Dict ks vs _ => dctB l ks vs | _ => false)
  | sc, .callV i f es, x => (match x with | .Call l (m :: ms) [] _ => lamB f && okSE N sc (.var i) l && okEL N sc es (m :: ms) | _ => false)
  | sc, .index a b, x => (match x with | .Call (.Attribute l name ap) [r] [] p => decide (name = "index") && notCall l && plainE r && (ap.endLine == p.line) && okE N sc a l && okE N sc b r | _ => false)
def okEL (N : List Str) : Scope → EL → List Expr → Bool
  | _, .nil, xs => xs.isEmpty
  | sc, .cons e es, xs => (match xs with | x :: xs => plainE x && okE N sc e x && okEL N sc es xs | [] => false)
def okOE (N : List Str) : Scope → OE → Option Expr → Bool
  | _, .non, x => x.isNone
  | sc, .som e, x => (match x with | some x => okE N sc e x | none => false)
def okC (N : List Str) : Scope → OE → List Expr → Bool
  | _, .non, xs => xs.isEmpty
  | sc, .som e, xs => (match xs with | [x] => okE N sc e x | _ => false)
def okIt (N : List Str) : Scope → It → Expr → Expr → Bool
  | sc, .seq a, _, x => okE N sc a x
  | sc, .rng .non b, _, x => (match x with | .Call (.Name z _) [l] [] _ => decide (z = "range") && glB sc z && plainE l && okE N sc b l | _ => false)
  | sc, .rng (.som a) b, _, x => (match x with | .Call (.Name z _) [l, r] [] _ => decide (z = "range") && glB sc z && plainE l && plainE r && okE N sc a l && okE N sc b r | _ => false)
  | sc, .enum a, tg, x => (match tg, x with | .Tuple .., .Call (.Name z _) [l] [] _ => decide (z = "enumerate") && glB sc z && plainE l && okE N sc a l | _, _ => false)
  | sc, .zip a b, tg, x => (match tg, x with | .Tuple .., .Call (.Name z _) [l, r] [] _ => decide (z = "zip") && glB sc z && plainE l && plainE r && okE N sc a l && okE N sc b r | _, _ => false)
end
theorem kw_len : ∀ {kws : List Keyword}, kwAll kws = true → (kwNames kws).length = kws.length
  | [], _ => rfl
  | ⟨some x, e, p⟩ :: r, h => by
    show (kwNames r).length + 1 = r.length + 1
    rw [kw_len (kws := r) h]
  | ⟨none, e, p⟩ :: r, h => nomatch (show false = true from h)
theorem PE.or {X : Cx} {e : Expr} {t t' : TE} (h : PE X e t) (h' : PE X e t') : PE X e (fun σ H R => t σ H R ∨ t' σ H R) := ⟨fun pins s σ H R I q => q.elim (h.run pins s σ H R I) (h'.run pins s σ H R I)⟩
theorem sim_eq {a : E} {s : SE} (h : a.sim? = some s) : a = .sim s := by
  cases a <;> first | (cases h; rfl) | cases h
theorem var_eq {a : E} {i : Nat} (h : a.var? = some i) : a = .sim (.var i) := by
  unfold E.var? at h
  cases e : a.sim? with
  | none => rw [e] at h; cases h
  | some s =>
    rw [e] at h
    have := sim_eq e
    subst this
    have h : s.var? = some i := h
    cases s <;> first | (cases h; rfl) | cases h
section
variable {Γ : Gam} {Φ : Phi} {k : Nat}
/-- looked at where it is simple -/
theorem look {N : List Str} {sc : Scope} {X : Cx} (g : Gd Γ N sc X) {a : E} {x : Expr} (h : okE N sc a x = true) (ih : PB X x (wE Γ Φ a)) : PE X x (liftR X.K (match a.sim? with | some s => simR Γ s | none => wE Γ Φ a)) := by
  cases e : a.sim? with
  | none => exact PE.imp ih.pe fun _ _ _ q => liftR_of q
  | some s =>
    have := sim_eq e
    subst this
    exact e_look g h
theorem el_len {N : List Str} : ∀ (es : EL) {sc : Scope} {xs : List Expr}, okEL N sc es xs = true → xs.all plainE = true
  | .nil, sc, xs, h => by
    have h : xs.isEmpty = true := h
    rw [List.isEmpty_iff] at h
    subst h
    rfl
  | .cons e es, sc, [], h => nomatch (show false = true from h)
  | .cons e es, sc, x :: xs, h => by
    have h : (plainE x && okE N sc e x && okEL N sc es xs) = true := h
    simp only [Bool.and_eq_true] at h
    rw [List.all_cons, h.1.1, el_len es h.2]
    rfl
mutual
theorem E_ok {N : List Str} : ∀ (a : E) {sc : Scope} {X : Cx} (g : Gd Γ N sc X) (c : GdC Φ k X) (x : Expr), okE N sc a x = true → PB X x (wE Γ Φ a)
  | .sim s, sc, X, g, c, x, h => e_sim g h
  | .bin o a b, sc, X, g, c, x, h => by
    unfold okE at h
    split at h
    · simp only [Bool.and_eq_true] at h
      have := operB_eq h.1.1
      subst this
      exact .val (e_bin g o (E_ok a g c _ h.1.2).pe (E_ok b g c _ h.2).pe)
    · cases h
  | .neg a, sc, X, g, c, x, h => by
    unfold okE at h
    split at h
    · exact e_neg (E_ok a g c _ h).pe
    · cases h
  | .cmp o a b, sc, X, g, c, x, h => by
    unfold okE at h
    split at h
    · simp only [Bool.and_eq_true] at h
      have := copB_eq h.1.1.1
      subst this
      have hb := look g h.2 (E_ok b g c _ h.2)
      rw [wE]
      cases e : a.var? with
      | none => exact e_cmp g o (E_ok a g c _ h.1.2).pe hb h.1.1.2
      | some i =>
        have := var_eq e
        subst this
        exact e_cmpV g o h.1.2 hb h.1.1.2
    · cases h
  | .isN a, sc, X, g, c, x, h => by
    unfold okE at h
    split at h
    · exact e_isN g (look g h (E_ok a g c _ h))
    · cases h
  | .notN a, sc, X, g, c, x, h => by
    unfold okE at h
    split at h
    · exact e_notN g (look g h (E_ok a g c _ h))
    · cases h
  | .chain o o' a b d, sc, X, g, c, x, h => by
    unfold okE at h
    split at h
    · simp only [Bool.and_eq_true] at h
      have e1 := copB_eq h.1.1.1.1.1
      have e2 := copB_eq h.1.1.1.1.2
      subst e1
      subst e2
      exact e_chain g o o' (E_ok a g c _ h.1.1.2).pe (E_ok b g c _ h.1.2).pe (E_ok d g c _ h.2).pe h.1.1.1.2
    · cases h
  | .and_ es, sc, X, g, c, x, h => by
    unfold okE at h
    split at h
    · rw [wE]
      exact (And_ok es g c _ h (by simp)).pb
    · cases h
  | .or_ es, sc, X, g, c, x, h => by
    unfold okE at h
    split at h
    · rw [wE]
      exact (Or_ok es g c _ h (by simp)).pb
    · cases h
  | .not_ a, sc, X, g, c, x, h => by
    unfold okE at h
    split at h
    · exact e_not (E_ok a g c _ h)
    · cases h
  | .ite d a b, sc, X, g, c, x, h => by
    unfold okE at h
    split at h
    · simp only [Bool.and_eq_true] at h
      exact e_ite (E_ok d g c _ h.1.1) (E_ok a g c _ h.1.2) (E_ok b g c _ h.2)
    · cases h
  | .tup es, sc, X, g, c, x, h => by
    unfold okE at h
    split at h
    · simp only [Bool.and_eq_true, decide_eq_true_eq] at h
      exact e_tup (EL_ok es g c _ h.2) h.1
    · cases h
  | .lst es, sc, X, g, c, x, h => by
    unfold okE at h
    split at h
    · simp only [Bool.and_eq_true, decide_eq_true_eq] at h
      exact e_lst (EL_ok es g c _ h.2) h.1
    · cases h
  | .dmk a, sc, X, g, c, x, h => by
    unfold okE at h
    split at h
    · simp only [Bool.and_eq_true, decide_eq_true_eq] at h
      obtain ⟨⟨⟨h1, h2⟩, h3⟩, h4⟩ := h
      exact .val (e_dmk g h1 h2 (E_ok a g c _ h4).pe h3)
    · cases h
  | .dgt i b, sc, X, g, c, x, h => by
    unfold okE at h
    split at h
    · simp only [Bool.and_eq_true] at h
      exact .val (e_dgt g h.1.2 (E_ok b g c _ h.2).pe h.1.1)
    · cases h
  | .dnew, sc, X, g, c, x, h => by
    unfold okE at h
    split at h
    · exact .val e_dnew
    · cases h
  | .dget i b, sc, X, g, c, x, h => by
    unfold okE at h
    split at h
    · simp only [Bool.and_eq_true] at h
      exact .val (e_dget g h.1.2 (E_ok b g c _ h.2).pe h.1.1)
    · cases h
  | .dgd i b b2, sc, X, g, c, x, h => by
    unfold okE at h
    split at h
    · simp only [Bool.and_eq_true, decide_eq_true_eq] at h
      obtain ⟨⟨⟨⟨⟨⟨rfl, h2⟩, h3⟩, h4⟩, h5⟩, h6⟩, h7⟩ := h
      exact .val (e_dgd g h2 (E_ok b g c _ h6).pe h3 (E_ok b2 g c _ h7).pe h4 h5)
    · cases h
  | .din b i, sc, X, g, c, x, h => by
    unfold okE at h
    split at h
    · simp only [Bool.and_eq_true] at h
      exact e_din g h.1.2 (E_ok b g c _ h.2).pe h.1.1
    · cases h
  | .idxV i b, sc, X, g, c, x, h => by
    unfold okE at h
    split at h
    · simp only [Bool.and_eq_true] at h
      exact .val (e_idxV g h.1.2 (E_ok b g c _ h.2).pe h.1.1)
    · cases h
  | .idx a b, sc, X, g, c, x, h => by
    unfold okE at h
    split at h
    · simp only [Bool.and_eq_true] at h
      exact e_idx (E_ok a g c _ h.1.2).pe (E_ok b g c _ h.2).pe h.1.1
    · cases h
  | .slice a lo hi, sc, X, g, c, x, h => by
    unfold okE at h
    split at h
    · simp only [Bool.and_eq_true] at h
      exact e_slice (E_ok a g c _ h.1.1).pe (OE_ok lo g c _ h.1.2) (OE_ok hi g c _ h.2)
    · cases h
  | .rev a, sc, X, g, c, x, h => by
    unfold okE at h
    split at h
    · exact e_rev (E_ok a g c _ h).pe
    · cases h
  | .call f es, sc, X, g, c, x, h => by
    unfold okE at h
    split at h
    · simp only [Bool.and_eq_true, decide_eq_true_eq, Bool.not_eq_true'] at h
      obtain ⟨⟨⟨⟨rfl, h2⟩, h3⟩, hlb⟩, h4⟩ := h
      rename_i y px l ls p
      have hp := el_len es h4
      rw [List.all_cons, Bool.and_eq_true] at hp
      have p1 := e_call (pos := p) (px := px) g c h2 h3 hlb (EL_ok es g c _ h4) hp.1 hp.2
      refine .val ?_
      match es, h4, p1 with
      | .nil, h4, p1 => exact nomatch (show false = true from h4)
      | .cons e es', h4, p1 =>
        have h4' : (plainE l && okE N sc e l && okEL N sc es' ls) = true := h4
        simp only [Bool.and_eq_true] at h4'
        cases ev : e.var? with
        | none =>
          refine PE.imp p1 fun σ H R ⟨F, G, ρ, L, Q, s, hw, kt⟩ => ?_
          rw [wE] at hw
          obtain ⟨fe, hf, hw⟩ := hw
          split at hw
          · rename_i ho
            exact ⟨F, G, ρ, L, Q, s, ⟨fe, hf, ho, hw⟩, kt⟩
          · obtain ⟨i, hi, _⟩ := hw
            rw [ev] at hi
            cases hi
          · cases hw
        | some i =>
          have := var_eq ev
          subst this
          have p2 := e_callO (pos := p) (px := px) g c h2 h3 hlb h4'.1.2 (EL_ok es' g c _ h4'.2) hp.2
          refine PE.imp (PE.or p1 p2) fun σ H R ⟨F, G, ρ, L, Q, s, hw, kt⟩ => ?_
          rw [wE] at hw
          obtain ⟨fe, hf, hw⟩ := hw
          split at hw
          · rename_i ho
            exact .inl ⟨F, G, ρ, L, Q, s, ⟨fe, hf, ho, hw⟩, kt⟩
          · rename_i ho
            obtain ⟨j, hj, hw⟩ := hw
            have hj : some i = some j := hj
            cases hj
            exact .inr ⟨F, G, ρ, L, Q, s, ⟨fe, hf, ho, hw⟩, kt⟩
          · cases hw
    · cases h
  | .callL f ss, sc, X, g, c, x, h => by
    unfold okE at h
    split at h
    · simp only [Bool.and_eq_true, decide_eq_true_eq, Bool.not_eq_true'] at h
      obtain ⟨⟨⟨⟨rfl, h2⟩, h3⟩, hlb⟩, h4⟩ := h
      exact .val (e_callL g c h2 h3 hlb h4)
    · cases h
  | .callK f ks es, sc, X, g, c, x, h => by
    unfold okE at h
    split at h
    · simp only [Bool.and_eq_true, decide_eq_true_eq, Bool.not_eq_true'] at h
      obtain ⟨⟨⟨⟨⟨⟨rfl, h2⟩, h3⟩, hlb⟩, h4⟩, h5⟩, h6⟩ := h
      rename_i y px kws p
      refine .val (e_callK g c h2 h3 hlb h4 h5 ?_ (KL_ok es g c kws h6))
      rw [← h5]
      exact kw_len h4
    · cases h
  | .blt1 b e, sc, X, g, c, x, h => by
    unfold okE at h
    split at h
    · simp only [Bool.and_eq_true, decide_eq_true_eq, Bool.not_eq_true'] at h
      obtain ⟨⟨⟨⟨h1, h2⟩, h3⟩, h4⟩, h5⟩ := h
      exact e_blt1 g b ⟨fun z => by rw [z] at h3; exact absurd h3 (by decide), fun z => by rw [z] at h3; exact absurd h3 (by decide), fun z => by rw [z] at h3; exact absurd h3 (by decide)⟩ h1 h2 (E_ok e g c _ h5).pe h4
    · cases h
  | .bltv b e, sc, X, g, c, x, h => by
    unfold okE at h
    split at h
    · simp only [Bool.and_eq_true, decide_eq_true_eq] at h
      obtain ⟨⟨⟨⟨h1, h2⟩, h3⟩, h4⟩, h5⟩ := h
      exact e_bltv g b h3 h1 h2 (look g h5 (E_ok e g c _ h5)) h4
    · cases h
  | .blt2 b e e2, sc, X, g, c, x, h => by
    unfold okE at h
    split at h
    · simp only [Bool.and_eq_true, decide_eq_true_eq] at h
      obtain ⟨⟨⟨⟨⟨⟨h1, h2⟩, h3⟩, h4⟩, h5⟩, h6⟩, h7⟩ := h
      exact e_blt2 g b (by cases b <;> first | exact .inl rfl | exact .inr (.inl rfl) | exact .inr (.inr rfl) | exact nomatch (show false = true from h3)) h1 h2 (E_ok e g c _ h6).pe (E_ok e2 g c _ h7).pe h4 h5
    · cases h
  | .sortset a, sc, X, g, c, x, h => by
    unfold okE at h
    split at h
    · simp only [Bool.and_eq_true, decide_eq_true_eq] at h
      obtain ⟨⟨⟨⟨⟨h1, h2⟩, h3⟩, h4⟩, h5⟩, h6⟩ := h
      exact e_sortset g h1 h2 h3 h4 (look g h6 (E_ok a g c _ h6)) h5
    · cases h
  | .lrng t .non b, sc, X, g, c, x, h => by
    unfold okE at h
    split at h
    · simp only [Bool.and_eq_true, decide_eq_true_eq] at h
      obtain ⟨⟨⟨⟨⟨rfl, rfl⟩, h3⟩, h4⟩, h5⟩, h6⟩ := h
      exact e_lrng1 g t h3 h4 (E_ok b g c _ h6).pe h5
    · cases h
  | .lrng t (.som a) b, sc, X, g, c, x, h => by
    unfold okE at h
    split at h
    · simp only [Bool.and_eq_true, decide_eq_true_eq] at h
      obtain ⟨⟨⟨⟨⟨⟨⟨rfl, rfl⟩, h3⟩, h4⟩, h5⟩, h6⟩, h7⟩, h8⟩ := h
      exact e_lrng2 g t h3 h4 (E_ok a g c _ h7).pe (E_ok b g c _ h8).pe h5 h6
    · cases h
  | .lc elt tg it d vs, sc, X, g, c, x, h => by
    unfold okE at h
    split at h
    · simp only [Bool.and_eq_true] at h
      obtain ⟨⟨⟨⟨⟨⟨h1, h2⟩, h3⟩, h4⟩, h5⟩, h6⟩, h7⟩ := h
      rename_i e tx iter ifs scope p
      have hv : ∀ i ∈ tgVs tg, i ∈ (ownOf N vs).map (·.2) := fun i hi => by
        rw [ownOf_snd]
        have := List.all_eq_true.mp h3 i hi
        simpa using this
      have q := e_lc (pos := p) g (own := ownOf N vs) hv (It_ok it g c tx iter h5) h1 h2 (fun s H C cl fp => C_ok d (g.blk scope s H C cl fp) (c.blk scope s H C cl fp) _ h6) (fun s H C cl fp => (E_ok elt (g.blk scope s H C cl fp) (c.blk scope s H C cl fp) _ h7).pe) h4
      rw [ownOf_snd] at q
      refine .val ?_
      rw [wE]
      exact q
    · cases h
  | .lcO elt tg i d vs, sc, X, g, c, x, h => by
    unfold okE at h
    split at h
    · simp only [Bool.and_eq_true] at h
      obtain ⟨⟨⟨⟨⟨h1, h2⟩, h3⟩, h4⟩, h6⟩, h7⟩ := h
      rename_i e tx z0 p0 ifs scope p
      have hv : ∀ i ∈ tgVs tg, i ∈ (ownOf N vs).map (·.2) := fun i hi => by
        rw [ownOf_snd]
        have := List.all_eq_true.mp h3 i hi
        simpa using this
      have q := e_lcO (pos := p) (i0 := i) (z0 := z0) (p0 := p0) g (own := ownOf N vs) hv (by simpa only [Bool.and_eq_true] using h4) h1 h2 (fun s H C cl fp => C_ok d (g.blk scope s H C cl fp) (c.blk scope s H C cl fp) _ h6) (fun s H C cl fp => (E_ok elt (g.blk scope s H C cl fp) (c.blk scope s H C cl fp) _ h7).pe)
      rw [ownOf_snd] at q
      refine .val ?_
      rw [wE]
      exact q
    · cases h
  | .pop i a, sc, X, g, c, x, h => by
    unfold okE at h
    split at h
    · simp only [Bool.and_eq_true, decide_eq_true_eq] at h
      obtain ⟨⟨⟨⟨rfl, h2⟩, h3⟩, h4⟩, h5⟩ := h
      exact .val (m_pop g h2 (E_ok a g c _ h5).pe h3 h4)
    · cases h
  | .maxd a b, sc, X, g, c, x, h => by
    unfold okE at h
    split at h
    · simp only [Bool.and_eq_true, decide_eq_true_eq] at h
      obtain ⟨⟨⟨⟨⟨rfl, rfl⟩, h3⟩, h4⟩, h5⟩, h6⟩ := h
      exact e_maxd g h3 (E_ok a g c _ h5).pe (E_ok b g c _ h6).pe h4
    · cases h
  | .idxL i a, sc, X, g, c, x, h => by
    unfold okE at h
    split at h
    · simp only [Bool.and_eq_true, decide_eq_true_eq] at h
      obtain ⟨⟨⟨⟨rfl, h2⟩, h3⟩, h4⟩, h5⟩ := h
      exact .val (e_idxL g h2 (E_ok a g c _ h5).pe h3 h4)
    · cases h
  | .idxD i a, sc, X, g, c, x, h => by
    unfold okE at h
    split at h
    · simp only [Bool.and_eq_true, decide_eq_true_eq] at h
      obtain ⟨⟨⟨⟨rfl, h2⟩, h3⟩, h4⟩, h5⟩ := h
      exact .val (e_idxD g h2 (E_ok a g c _ h5).pe h3 h4)
    · cases h
  | .isi a t, sc, X, g, c, x, h => by
    unfold okE at h
    split at h
    · simp only [Bool.and_eq_true, decide_eq_true_eq] at h
      obtain ⟨⟨⟨⟨⟨⟨h1, rfl⟩, h3⟩, h4⟩, h5⟩, h6⟩, h7⟩ := h
      exact e_isi g h1 h3 h4 h5 (look g h7 (E_ok a g c _ h7)) h6
    · cases h
  | .fza a, sc, X, g, c, x, h => by
    unfold okE at h
    exact (E_ok a g c x h).fza
  | .fzl a, sc, X, g, c, x, h => by
    unfold okE at h
    exact (E_ok a g c x h).fzl
  | .dct l, sc, X, g, c, x, h => by
    unfold okE at h
    split at h
    · exact e_dct h
    · cases h
  | .callV i f es, sc, X, g, c, x, h => by
    unfold okE at h
    split at h
    · simp only [Bool.and_eq_true] at h
      obtain ⟨⟨h1, h2⟩, h3⟩ := h
      have hp := el_len es h3
      rw [List.all_cons, Bool.and_eq_true] at hp
      exact .val (e_callV g c h1 h2 (EL_ok es g c _ h3) hp.1 hp.2)
    · cases h
  | .index a b, sc, X, g, c, x, h => by
    unfold okE at h
    split at h
    · simp only [Bool.and_eq_true, decide_eq_true_eq] at h
      obtain ⟨⟨⟨⟨⟨rfl, h2⟩, h3⟩, h4⟩, h5⟩, h6⟩ := h
      exact e_index h2 (E_ok a g c _ h5).pe (E_ok b g c _ h6).pe h3 h4
    · cases h
theorem EL_ok {N : List Str} : ∀ (es : EL) {sc : Scope} {X : Cx} (g : Gd Γ N sc X) (c : GdC Φ k X) (xs : List Expr), okEL N sc es xs = true → PA X xs (liftL X.K xs.length (wEs Γ Φ es))
  | .nil, sc, X, g, c, xs, h => by
    have h : xs.isEmpty = true := h
    rw [List.isEmpty_iff] at h
    subst h
    exact a_nil
  | .cons e es, sc, X, g, c, [], h => nomatch (show false = true from h)
  | .cons e es, sc, X, g, c, x :: xs, h => by
    have h : (plainE x && okE N sc e x && okEL N sc es xs) = true := h
    simp only [Bool.and_eq_true] at h
    exact a_cons (E_ok e g c _ h.1.2).pe (EL_ok es g c _ h.2) h.1.1
theorem KL_ok {N : List Str} : ∀ (es : EL) {sc : Scope} {X : Cx} (g : Gd Γ N sc X) (c : GdC Φ k X) (kws : List Keyword), okEL N sc es (kwVals kws) = true → PK X kws (liftL X.K kws.length (wEs Γ Φ es))
  | .nil, sc, X, g, c, [], h => k_nil
  | .nil, sc, X, g, c, ⟨nm, x, p⟩ :: kws, h => nomatch (show false = true from h)
  | .cons e es, sc, X, g, c, [], h => nomatch (show false = true from h)
  | .cons e es, sc, X, g, c, ⟨nm, x, p⟩ :: kws, h => by
    have h : (plainE x && okE N sc e x && okEL N sc es (kwVals kws)) = true := h
    simp only [Bool.and_eq_true] at h
    exact k_cons (E_ok e g c _ h.1.2).pe (KL_ok es g c kws h.2)
theorem And_ok {N : List Str} : ∀ (es : EL) {sc : Scope} {X : Cx} {pos : Pos} (g : Gd Γ N sc X) (c : GdC Φ k X) (xs : List Expr), okEL N sc es xs = true → xs ≠ [] → PBW X (.BoolOp .And xs pos) (wAnd Γ Φ es)
  | .nil, sc, X, pos, g, c, xs, h, hn => by
    have h : xs.isEmpty = true := h
    exact absurd (List.isEmpty_iff.mp h) hn
  | .cons e es, sc, X, pos, g, c, [], h, hn => absurd rfl hn
  | .cons e .nil, sc, X, pos, g, c, x :: xs, h, hn => by
    have h : (plainE x && okE N sc e x && xs.isEmpty) = true := h
    simp only [Bool.and_eq_true, List.isEmpty_iff] at h
    obtain ⟨⟨h1, h2⟩, rfl⟩ := h
    exact e_and1 (E_ok e g c _ h2)
  | .cons e (.cons e2 es), sc, X, pos, g, c, [x], h, hn => by
    have h : (plainE x && okE N sc e x && false) = true := h
    rw [Bool.and_false] at h
    cases h
  | .cons e (.cons e2 es), sc, X, pos, g, c, x :: y :: xs, h, hn => by
    have h : (plainE x && okE N sc e x && okEL N sc (.cons e2 es) (y :: xs)) = true := h
    simp only [Bool.and_eq_true] at h
    exact e_and (E_ok e g c _ h.1.2) (And_ok (.cons e2 es) g c (y :: xs) h.2 (by simp))
theorem Or_ok {N : List Str} : ∀ (es : EL) {sc : Scope} {X : Cx} {pos : Pos} (g : Gd Γ N sc X) (c : GdC Φ k X) (xs : List Expr), okEL N sc es xs = true → xs ≠ [] → PBW X (.BoolOp .Or xs pos) (wOr Γ Φ es)
  | .nil, sc, X, pos, g, c, xs, h, hn => by
    have h : xs.isEmpty = true := h
    exact absurd (List.isEmpty_iff.mp h) hn
  | .cons e es, sc, X, pos, g, c, [], h, hn => absurd rfl hn
  | .cons e .nil, sc, X, pos, g, c, x :: xs, h, hn => by
    have h : (plainE x && okE N sc e x && xs.isEmpty) = true := h
    simp only [Bool.and_eq_true, List.isEmpty_iff] at h
    obtain ⟨⟨h1, h2⟩, rfl⟩ := h
    exact e_or1 (E_ok e g c _ h2)
  | .cons e (.cons e2 es), sc, X, pos, g, c, [x], h, hn => by
    have h : (plainE x && okE N sc e x && false) = true := h
    rw [Bool.and_false] at h
    cases h
  | .cons e (.cons e2 es), sc, X, pos, g, c, x :: y :: xs, h, hn => by
    have h : (plainE x && okE N sc e x && okEL N sc (.cons e2 es) (y :: xs)) = true := h
    simp only [Bool.and_eq_true] at h
    exact e_or (E_ok e g c _ h.1.2) (Or_ok (.cons e2 es) g c (y :: xs) h.2 (by simp))
theorem OE_ok {N : List Str} : ∀ (o : OE) {sc : Scope} {X : Cx} (g : Gd Γ N sc X) (c : GdC Φ k X) (x : Option Expr), okOE N sc o x = true → PO X x (liftO X.K (wO Γ Φ o))
  | .non, sc, X, g, c, none, h => o_none
  | .non, sc, X, g, c, some x, h => nomatch (show false = true from h)
  | .som e, sc, X, g, c, none, h => nomatch (show false = true from h)
  | .som e, sc, X, g, c, some x, h => o_some (E_ok e g c x h).pe
theorem C_ok {N : List Str} : ∀ (o : OE) {sc : Scope} {X : Cx} (g : Gd Γ N sc X) (c : GdC Φ k X) (xs : List Expr), okC N sc o xs = true → PTs X xs (liftC X.K (wC Γ Φ o))
  | .non, sc, X, g, c, xs, h => by
    have h : xs.isEmpty = true := h
    rw [List.isEmpty_iff] at h
    subst h
    exact c_none
  | .som e, sc, X, g, c, [], h => nomatch (show false = true from h)
  | .som e, sc, X, g, c, [x], h => c_some (E_ok e g c x h).pt
  | .som e, sc, X, g, c, x :: y :: xs, h => nomatch (show false = true from h)
theorem It_ok {N : List Str} : ∀ (it : It) {sc : Scope} {X : Cx} (g : Gd Γ N sc X) (c : GdC Φ k X) (tg x : Expr), okIt N sc it tg x = true → PI X tg x (liftI X.K (wI Γ Φ it))
  | .seq a, sc, X, g, c, tg, x, h => i_seq (E_ok a g c x h).pe
  | .rng .non b, sc, X, g, c, tg, x, h => by
    unfold okIt at h
    split at h
    · simp only [Bool.and_eq_true, decide_eq_true_eq] at h
      obtain ⟨⟨⟨rfl, h2⟩, h3⟩, h4⟩ := h
      exact i_rng1 g h2 (E_ok b g c _ h4).pe h3
    · cases h
  | .rng (.som a) b, sc, X, g, c, tg, x, h => by
    unfold okIt at h
    split at h
    · simp only [Bool.and_eq_true, decide_eq_true_eq] at h
      obtain ⟨⟨⟨⟨⟨rfl, h2⟩, h3⟩, h4⟩, h5⟩, h6⟩ := h
      exact i_rng2 g h2 (E_ok a g c _ h5).pe (E_ok b g c _ h6).pe h3 h4
    · cases h
  | .enum a, sc, X, g, c, tg, x, h => by
    unfold okIt at h
    split at h
    · simp only [Bool.and_eq_true, decide_eq_true_eq] at h
      obtain ⟨⟨⟨rfl, h2⟩, h3⟩, h4⟩ := h
      exact i_enum g h2 (E_ok a g c _ h4).pe h3
    · cases h
  | .zip a b, sc, X, g, c, tg, x, h => by
    unfold okIt at h
    split at h
    · simp only [Bool.and_eq_true, decide_eq_true_eq] at h
      obtain ⟨⟨⟨⟨⟨rfl, h2⟩, h3⟩, h4⟩, h5⟩, h6⟩ := h
      exact i_zip g h2 (E_ok a g c _ h5).pe (E_ok b g c _ h6).pe h3 h4
    · cases h
end
end
end Tr
set_option Elab.async false
set_option linter.all false
set_option maxRecDepth 100000
set_option maxHeartbeats 4000000
namespace Tr
open PySem PySem.Spec PyProof.Rows L2
def kpB (kp : Option Nat) (i : Nat) : Bool := match kp with
  | some j => !(j == i)
  | none => true
theorem kpB_ne {kp : Option Nat} {i : Nat} (h : kpB kp i = true) : kp ≠ some i := fun e => by
  subst e
  unfold kpB at h
  simp at h
theorem kpB_all {kp : Option Nat} {is : List Nat} (h : is.all (kpB kp) = true) : ∀ i, kp = some i → i ∉ is := fun i e hi => kpB_ne (List.all_eq_true.mp h i hi) e
/-- name = [..]: is the name stored ahead of the walk -/
def swL (sc : Scope) (e : Expr) (y : Str) (py : Pos) : Bool := match e with
  | .ListComp _ _ scope pos => (sc.names.lookup y == some .local) && (py.line == pos.line) && !(scope.names.any fun (n, k) => n == y && (k == .local || k == .cell))
  | _ => false
theorem swL_eq {sc : Scope} {env : Env} {e : Expr} {y : Str} {py : Pos} {line : Nat} (hs : env.scope = sc) (hk : sc.kind = .function) (hc : notComp e = true ∨ ∃ a b c d, e = .ListComp a b c d) : swapsWith e (some (.Name y py)) line env = pure (swL sc e y py) := by
  rcases hc with hc | ⟨a, b, c, d, rfl⟩
  · rw [sw_not hc]
    cases e <;> first | rfl | exact nomatch (show false = true from hc)
  · have hb : env.blockKind = .function := by unfold Env.blockKind; rw [hs, hk]; rfl
    have ky : env.kindOf y = sc.names.lookup y := by rw [← hs]; rfl
    unfold swapsWith swL
    simp only [hb, ky]
    rfl
def isComp : Expr → Bool
  | .ListComp .. => true
  | _ => false
theorem isComp_eq {e : Expr} (h : isComp e = true) : ∃ a b c d, e = .ListComp a b c d := by
  cases e <;> first | exact ⟨_, _, _, _, rfl⟩ | exact nomatch (show false = true from h)
def swB (sc : Scope) (ts vs : List Expr) : Bool := match swN sc ts vs with
  | some none => true
  | some (some xs) => xs.all (fun x => decide (sc.names.lookup x = some .local)) && decide xs.Nodup && decide (ts.filterMap nameOf = xs) && (decide (ts.length = 2) || decide (ts.length = 3))
  | none => false
theorem sw_sub {sc : Scope} {a b a2 b2 : Expr} {p p2 : Pos} {vs : List Expr} (h : vs.length = 2) : swN sc [.Subscript a b p, .Subscript a2 b2 p2] vs = some none := by
  unfold swN
  split
  · rfl
  · split
    · rfl
    · rfl
end Tr
set_option Elab.async false
set_option linter.all false
set_option maxRecDepth 100000
set_option maxHeartbeats 2000000
namespace Tr
open PySem PySem.Spec PyProof.Rows L2
theorem addLot_none {β : Int → Bool} {n : Int} : ∀ {ts : List (List Int)}, (∀ l ∈ ts, β (l.headD 0) = false) → addLot β n ts = ts ++ [[n]]
  | [], _ => rfl
  | l :: ls, h => by
    have h1 := h l (by simp)
    have h2 := addLot_none (n := n) (ts := ls) fun x hx => h x (by simp [hx])
    rw [addLot, if_neg (by rw [h1]; simp), h2]
    rfl
def selV (β : Int → Bool) (vs : List V) (ts : List (List Int)) (i : Nat) : List V := (((vs.zip ts).take i).filter fun p => β (p.2.headD 0)).map (·.1)
theorem sel_first {β : Int → Bool} {n : Int} : ∀ {vs : List V} {ts : List (List Int)} {v : V} {r : List V}, vs.length = ts.length → ((vs.zip ts).filter fun p => β (p.2.headD 0)).map (·.1) = v :: r →
    ∃ j l, vs[j]? = some v ∧ ts[j]? = some l ∧ addLot β n ts = ts.set j (l ++ [n])
  | [], ts, v, r, _, h => by simp at h
  | x :: vs, [], v, r, e, h => by simp at e
  | x :: vs, l :: ts, v, r, e, h => by
    rw [List.zip_cons_cons, List.filter_cons] at h
    by_cases hb : β (l.headD 0) = true
    · rw [if_pos hb] at h
      simp only [List.map_cons, List.cons.injEq] at h
      exact ⟨0, l, by simp [h.1], rfl, by rw [addLot, if_pos hb]; rfl⟩
    · rw [if_neg hb] at h
      obtain ⟨j, l', h1, h2, h3⟩ := sel_first (n := n) (by simpa using e) h
      exact ⟨j + 1, l', by simpa using h1, by simpa using h2, by rw [addLot, if_neg hb, h3]; rfl⟩
theorem sel_none {β : Int → Bool} : ∀ {vs : List V} {ts : List (List Int)}, vs.length = ts.length → ((vs.zip ts).filter fun p => β (p.2.headD 0)).map (·.1) = [] → ∀ l ∈ ts, β (l.headD 0) = false
  | [], [], _, _, l, hl => absurd hl (by simp)
  | [], _ :: _, e, _, _, _ => by simp at e
  | _ :: _, [], e, _, _, _ => by simp at e
  | x :: vs, t :: ts, e, h, l, hl => by
    rw [List.zip_cons_cons, List.filter_cons] at h
    by_cases hb : β (t.headD 0) = true
    · rw [if_pos hb] at h
      simp at h
    · rw [if_neg hb] at h
      rcases List.mem_cons.mp hl with q | q
      · rw [q]
        simpa using hb
      · exact sel_none (by simpa using e) h l q
section
variable {K : PySem.W.Frag} {F G H : Hp} {σ : L2.St} {ρ : Env'} {L M : List Addr}
theorem ors_ints : ∀ {l : List Int} {ws : List V} {M : List Addr}, ORs K G H ((l.map PyData.int).map Tv.d) ws M → ws = l.map V.int ∧ M = []
  | [], _, _, .nil => ⟨rfl, rfl⟩
  | i :: l, _, _, .cons o t => by
    obtain ⟨e1, e2⟩ := ors_ints t
    have d := o.dq
    have v := d.1.int_of
    rw [v, e1, d.2, e2]
    exact ⟨rfl, rfl⟩
theorem ors_lots {ts : List (List Int)} {vs : List V} (h : ORs K G H (ts.map lotT) vs M) {j : Nat} {l : List Int} (hj : ts[j]? = some l) : ∃ b, vs[j]? = some (.ref b) ∧ H b = some (.lst (l.map V.int)) ∧ b ∈ M := by
  obtain ⟨v, M0, h1, h2, h3⟩ := h.get (i := j) (x := lotT l) (by rw [List.getElem?_map, hj]; rfl)
  unfold lotT at h2
  cases h2 with
  | own h4 h5 h6 =>
    obtain ⟨e, _⟩ := ors_ints h6
    rw [e] at h4
    exact ⟨_, h1, h4, h3 _ (by simp)⟩
theorem SR.nothing : ∀ σ : L2.St, SR K G H (List.replicate σ.length none) σ []
  | [] => .nil
  | o :: σ => .no (SR.nothing σ)
theorem dq_ints (l : List Int) : DqAll G (l.map V.int) (l.map PyData.int) := by
  induction l with
  | nil => exact .nil
  | cons i l ih => exact .cons (.int i) ih
end
theorem at_zero {α : Type} (x : α) (xs : List α) : atI (x :: xs) 0 = some x := by
  unfold atI ixN
  rw [if_pos (by omega), if_pos (by rw [List.length_cons]; omega)]
  rfl
/-- what is asked of the two statements -/
def lotTest (li ni ki : Nat) (lam : Str) : E := bif lamB lam then .callV ki lam (.cons (.sim (.idx (.var li) (.int 0))) (.cons (.sim (.var ni)) .nil)) else .call lam (.cons (.sim (.var ki)) (.cons (.sim (.idx (.var li) (.int 0))) (.cons (.sim (.var ni)) .nil)))
theorem lotTest_t {li ni ki : Nat} {lam : Str} (h : lamB lam = true) : lotTest li ni ki lam = .callV ki lam (.cons (.sim (.idx (.var li) (.int 0))) (.cons (.sim (.var ni)) .nil)) := by
  unfold lotTest
  rw [h]
  rfl
theorem lotTest_f {li ni ki : Nat} {lam : Str} (h : lamB lam = false) : lotTest li ni ki lam = .call lam (.cons (.sim (.var ki)) (.cons (.sim (.idx (.var li) (.int 0))) (.cons (.sim (.var ni)) .nil))) := by
  unfold lotTest
  rw [h]
  rfl
def lotB (N : List Str) (sc : Scope) (fi ni hi li ki : Nat) (lam : Str) (s1 s2 : Stmt) : Bool := match s1, s2 with
  | .Assign [.Name h0 ph] (.ListComp (.Name l1 p1) [⟨.Name l0 p0, .Name f0 pf, cds, 0⟩] scope pos) spos,
    .If (.Compare (.Name h1 q1) [.Eq] [.List [] q2] q3) [.Expr (.Call (.Attribute f1 a1 q5) [.List [n1] q7] [] q8) q9] [.Expr (.Call (.Attribute (.Subscript (.Name h2 r1) (.Constant (.int 0) r2 r3) r4) a2 r5) [n2] [] r7) r8] r9 =>
    decide (N[hi]? = some h0) && decide (sc.names.lookup h0 = some .local) && swL sc (.ListComp (.Name l1 p1) [⟨.Name l0 p0, .Name f0 pf, cds, 0⟩] scope pos) h0 ph && blkC N sc scope (ownOf N [li]) && decide (N[li]? = some l0) && locB scope l0 &&
    (decide (N[fi]? = some f0) && visB sc f0 && nmB f0) && okC N (relS scope sc) (.som (lotTest li ni ki lam)) cds && okSE N (relS scope sc) (.var li) (.Name l1 p1) &&
    okSE N sc (.var hi) (.Name h1 q1) && okSE N sc (.var hi) (.Name h2 r1) && okSE N sc (.var fi) f1 && okSE N sc (.var ni) n1 && okSE N sc (.var ni) n2 && decide (a1 = "append") && decide (a2 = "append") && (q5.endLine == q8.line) && (r5.endLine == r7.line) &&
    decide (fi ≠ ni) && decide (fi ≠ hi) && decide (fi ≠ li) && decide (fi ≠ ki) && decide (ni ≠ hi) && decide (ni ≠ li) && decide (ni ≠ ki) && decide (hi ≠ li) && decide (hi ≠ ki) && decide (li ≠ ki)
  | _, _ => false
section
variable {Γ : Gam} {Φ : Phi} {K : PySem.W.Frag} {F G H : Hp} {σ : L2.St} {ρ : Env'} {L M : List Addr} {fi ni hi li ki : Nat} {lam : Str}
theorem lot_cond (s0 : Sta K F G H ρ σ L) {D : Addr} {acc : List V} (hD : H D = some (.lst acc)) {b : Addr} {l : List Int} (hb : H b = some (.lst (l.map V.int))) (hbL : b ∈ L) (hl : l ≠ []) {σ2 : L2.St} {n : Int} {x : Tv} {vk : V}
    (e1 : σ2[li]? = some (some (.ref b))) (e2 : σ2[ni]? = some (some (.int n))) (e3 : σ2[ki]? = some (some vk)) (hk : ∀ G', Same G G' → OR K G' H x vk []) (d1 : ni ≠ li) (d2 : ni ≠ ki) (d3 : li ≠ ki) {fe : FE} (hX : LotX lam fe x) (hf : Φ lam = some fe) {β : Int → Bool}
    (hβ : ∀ Q' : Tv → List (Option Tv) → Prop, (∀ rest, Q' (.d (.bool (β (l.headD 0)))) rest) → fe.fs [x, .d (.int (l.headD 0)), .d (.int n)] Q') {R : Bool → Hp → Prop}
    (k : ∀ H3, Sta K F G H3 ρ σ L → (∀ c ∈ L, H3 c = H c) → H3 D = some (.lst acc) → R (β (l.headD 0)) H3) : liftC K (wC Γ Φ (.som (lotTest li ni ki lam))) σ2 H R := by
  have gb : G b = none := (s0.sr.there b hbL).2
  have Gg : Same G (freeze G H [b]) := freeze_grow fun a ha => by rw [List.mem_singleton.mp ha]; exact gb
  have lists : ∀ a ∈ D :: L, ∃ o, H a = some o ∧ OwnO o := fun a ha => by
    rcases List.mem_cons.mp ha with e | e
    · rw [e]; exact ⟨_, hD, .lst _⟩
    · exact s0.sr.list a e
  have st0 : Sta K (Tr.hold F H (D :: L)) (freeze G H [b]) H (List.replicate σ2.length none) σ2 [] := by
    refine ⟨SR.nothing σ2, List.nodup_nil, fun _ z => absurd z (by simp), fun a o e => ?_, freeze_same s0.gh, s0.tb, hold_nt s0.nt lists, freeze_nt s0.ng fun a ha => ?_⟩
    · unfold Tr.hold at e
      split at e
      · exact e
      · exact s0.fh a o e
    · rw [List.mem_singleton.mp ha]; exact ⟨_, hb, .lst _⟩
  have len1 : ni < σ2.length := (List.getElem?_eq_some_iff.mp e2).1
  have len2 : ki < σ2.length := (List.getElem?_eq_some_iff.mp e3).1
  have len3 : li < σ2.length := (List.getElem?_eq_some_iff.mp e1).1
  obtain ⟨L1, s1, _⟩ := st0.putD (i := ni) (d := .int n) (v := .int n) (by rw [List.length_replicate]; exact len1) (.int n)
  rw [set_same e2] at s1
  obtain ⟨L2', s2, _⟩ := s1.put (i := ki) (x := x) (v := vk) (M := []) (by rw [List.length_set, List.length_replicate]; exact len2) ⟨hk _ Gg, List.nodup_nil, fun _ z => absurd z (by simp), fun _ z => absurd z (by simp)⟩
  rw [set_same e3] at s2
  obtain ⟨L3, s3, _⟩ := s2.putD (i := li) (d := .list (l.map .int)) (v := .ref b) (by rw [List.length_set, List.length_set, List.length_replicate]; exact len3) (.lst (by rw [freeze_in (by simp)]; exact hb) (dq_ints l))
  rw [set_same e1] at s3
  have r1 : ((((List.replicate σ2.length (none : Option Tv)).set ni (some (.d (.int n)))).set ki (some x)).set li (some (.d (.list (l.map .int)))))[li]? = some (some (.d (.list (l.map .int)))) := by
    rw [List.getElem?_set_self (by rw [List.length_set, List.length_set, List.length_replicate]; exact len3)]
  have r2 : ((((List.replicate σ2.length (none : Option Tv)).set ni (some (.d (.int n)))).set ki (some x)).set li (some (.d (.list (l.map .int)))))[ni]? = some (some (.d (.int n))) := by
    rw [List.getElem?_set_ne (Ne.symm d1), List.getElem?_set_ne (Ne.symm d2), List.getElem?_set_self (by rw [List.length_replicate]; exact len1)]
  have r3 : ((((List.replicate σ2.length (none : Option Tv)).set ni (some (.d (.int n)))).set ki (some x)).set li (some (.d (.list (l.map .int)))))[ki]? = some (some x) := by
    rw [List.getElem?_set_ne d3, List.getElem?_set_self (by rw [List.length_set, List.length_replicate]; exact len2)]
  generalize (((List.replicate σ2.length (none : Option Tv)).set ni (some (.d (.int n)))).set ki (some x)).set li (some (.d (.list (l.map .int)))) = ρs at s3 r1 r2 r3
  refine ⟨_, _, ρs, L3, fun bb ρ3 => bb = β (l.headD 0) ∧ ρ3 = ρs, s3, ?_, fun bb ρ' G' H' L' a ⟨eb, _⟩ => ?_⟩
  · have v1 : sv Γ ρs (.idx (.var li) (.int 0)) = some (.d (.int (l.headD 0))) := by
      show (match (ρs[li]?).join, (some (Tv.d (.int 0)) : Option Tv) with
        | some x, some (.d (.int k)) => x.item k
        | _, _ => none) = _
      rw [r1]
      cases l with
      | nil => exact absurd rfl hl
      | cons x xs =>
        show (atI ((x :: xs).map PyData.int) 0).map Tv.d = _
        rw [List.map_cons, at_zero]
        rfl
    have v2 : sv Γ ρs (.var ni) = some (.d (.int n)) := by
      show (ρs[ni]?).join = _
      rw [r2]
      rfl
    rcases hX with ⟨hx, lk, caps, rfl⟩ | ⟨hx, ho, d, rfl⟩
    · rw [lotTest_t hx]
      show wE Γ Φ (.callV ki lam (.cons (.sim (.idx (.var li) (.int 0))) (.cons (.sim (.var ni)) .nil))) ρs fun x ρ1 => ∃ k, x = .d (.bool k) ∧ (k = β (l.headD 0) ∧ ρ1 = ρs)
      rw [wE]
      refine ⟨⟨lk, caps, r3⟩, ?_⟩
      simp only [wEs, wE, simV, v1, v2]
      exact ⟨lk, caps, fe, [.int (l.headD 0), .int n], r3, hf, rfl, hβ _ fun rest => ⟨_, rfl, _, rfl, rfl, trivial⟩⟩
    · rw [lotTest_f hx]
      show wE Γ Φ (.call lam (.cons (.sim (.var ki)) (.cons (.sim (.idx (.var li) (.int 0))) (.cons (.sim (.var ni)) .nil)))) ρs fun x ρ1 => ∃ k, x = .d (.bool k) ∧ (k = β (l.headD 0) ∧ ρ1 = ρs)
      have v3 : sv Γ ρs (.var ki) = some (.d d) := by
        show (ρs[ki]?).join = _
        rw [r3]
        rfl
      rw [wE]
      refine ⟨fe, hf, ?_⟩
      rw [ho]
      simp only [wEs, wE, simV, v1, v2, v3]
      exact ⟨[.d d, .d (.int (l.headD 0)), .d (.int n)], rfl, hβ _ fun rest => ⟨_, rfl, rfl, trivial⟩⟩
  · subst eb
    have same : ∀ c ∈ D :: L, H' c = H c := fun c hc => by
      obtain ⟨vs, e, _⟩ := lists c hc
      rw [e]
      exact a.st.fh c _ (by rw [hold_in hc]; exact e)
    refine k H' ⟨s0.sr.step (Same.refl _) (fun c hc => same c (List.mem_cons_of_mem _ hc)) fun c hc => (s0.sr.there c hc).2, s0.nd, s0.fr, fun c o e => ?_, fun c o e => ?_, a.st.tb, s0.nt, s0.ng⟩ (fun c hc => same c (List.mem_cons_of_mem _ hc)) ?_
    · by_cases hc : c ∈ D :: L
      · rw [same c hc]
        exact s0.fh c o e
      · exact a.st.fh c o (by unfold Tr.hold; rw [if_neg hc]; exact e)
    · exact a.st.gh c o (a.gg c o (Gg c o e))
    · rw [same D (by simp), hD]
/-- the lots that are like it -/
theorem lot_loop {ts : List (List Int)} {n : Int} {x : Tv} {fe : FE} {β : Int → Bool} (s0 : Sta K F G H ρ σ L) (hfi : ρ[fi]? = some (some (.own (ts.map lotT)))) (hni : ρ[ni]? = some (some (.d (.int n)))) (hki : ρ[ki]? = some (some x))
    (hli : li < ρ.length) (d1 : ni ≠ li) (d2 : ni ≠ ki) (d3 : li ≠ ki) (hX : LotX lam fe x) (hf : Φ lam = some fe) (hlen : ts.length < 1000) (hne : ∀ l ∈ ts, l ≠ [])
    (hβ : ∀ l ∈ ts, ∀ Q' : Tv → List (Option Tv) → Prop, (∀ rest, Q' (.d (.bool (β (l.headD 0)))) rest) → fe.fs [x, .d (.int (l.headD 0)), .d (.int n)] Q') {Q : VK}
    (k : ∀ D H1 a vs M', Sta K F G H1 ρ σ L → (∀ c ∈ L, H1 c = H c) → D ∉ L → F D = none → G D = none → σ[fi]? = some (some (.ref a)) → H a = some (.lst vs) → ORs K G H (ts.map lotT) vs M' → (∀ c ∈ M', c ∈ L) → vs.length = ts.length →
      H1 D = some (.lst (((vs.zip ts).filter fun p => β (p.2.headD 0)).map (·.1))) → Q (.ref D) H1) :
    tLc (iSeq K (tVar fi)) (gName li) (liftC K (wC Γ Φ (.som (lotTest li ni ki lam)))) (tVar li) [li] σ H Q := by
  obtain ⟨a, vs, M', ev, hA, r, _, sub, aL, _⟩ := s0.own hfi
  obtain ⟨vn, _, _, _, _, en, rn, _⟩ := s0.sr.at hni
  have hn := rn.dq.1.int_of
  subst hn
  obtain ⟨vk, _, _, _, _, ek, rk, _⟩ := s0.sr.at hki
  have fk : ∀ G', Same G G' → OR K G' H x vk [] := fun G' gg => by
    rcases hX with ⟨_, lk, caps, rfl⟩ | ⟨_, _, d, rfl⟩
    · exact .fn (rk.fnc.1.grow gg)
    · exact .d (rk.dq.1.grow gg)
  have vlen : vs.length = ts.length := by
    have := r.length
    rw [List.length_map] at this
    exact this.symm
  refine ⟨.ref a, ev, a, rfl, .inl ⟨⟨vs, SqL.of hA⟩, fun D hD => ?_⟩⟩
  have DL : D ∉ L := fun hl => by
    obtain ⟨⟨ws, e⟩, _⟩ := s0.sr.there D hl
    rw [hD] at e
    cases e
  have FD := s0.fh.free hD
  have GD := s0.gh.free hD
  refine ⟨fun i m H1 => m = ts.length - i ∧ i ≤ ts.length ∧ Sta K F G H1 ρ σ L ∧ (∀ c ∈ L, H1 c = H c) ∧ H1 D = some (.lst (selV β vs ts i)), ⟨ts.length, by simp, Nat.zero_le _, ?_, fun c hc => upd_ne fun z => DL (by rw [← z]; exact hc), upd_same⟩, ?_⟩
  · exact (s0.made hD).st
  rintro i m H1 ⟨rfl, hi, s1, same, hacc⟩
  have hA1 : H1 a = some (.lst vs) := by rw [same a aL]; exact hA
  by_cases hlt : i < ts.length
  · have hv : i < vs.length := by omega
    have hz : (vs.zip ts)[i]? = some (vs[i], ts[i]) := by
      rw [List.getElem?_eq_getElem (by rw [List.length_zip]; omega), List.getElem_zip]
    have step : ∀ bb, β (ts[i].headD 0) = bb → selV β vs ts (i + 1) = if bb = true then selV β vs ts i ++ [vs[i]] else selV β vs ts i := fun bb e => by
      unfold selV
      rw [List.take_add_one, hz, Option.toList_some, List.filter_append, List.map_append, List.filter_cons]
      cases bb with
      | true => rw [if_pos e, if_pos rfl]; rfl
      | false => rw [if_neg (by rw [e]; simp), if_neg (by simp)]; simp
    refine .inr ⟨⟨vs, vs[i], SqL.of hA1, by simp [hv]⟩, fun H' => ts.length - (i + 1) = ts.length - (i + 1) ∧ i + 1 ≤ ts.length ∧ Sta K F G H' ρ σ L ∧ (∀ c ∈ L, H' c = H c) ∧ H' D = some (.lst (selV β vs ts (i + 1))), fun H' p' => ⟨ts.length - (i + 1), by omega, p'⟩, fun x' H2 y => ?_⟩
    obtain ⟨rfl, y⟩ := y
    have hx := y vs (SqL.of hA1)
    rw [List.getElem?_eq_getElem hv] at hx
    cases hx
    obtain ⟨b, hb1, hb2, hb3⟩ := ors_lots r (List.getElem?_eq_getElem hlt)
    rw [List.getElem?_eq_getElem hv] at hb1
    have hb1 := Option.some.inj hb1
    have hbL := sub b hb3
    have wl : li < (wipe σ [li]).length := by
      rw [wipe_length, ← s0.sr.length]
      exact hli
    have fk1 : ∀ G', Same G G' → OR K G' H2 x vk [] := fun G' gg => by
      rcases hX with ⟨_, lk, caps, rfl⟩ | ⟨_, _, d, rfl⟩
      · exact .fn (rk.fnc.1.grow gg)
      · exact .d (rk.dq.1.grow gg)
    refine ⟨?_, ?_⟩
    · show ((σ.set li none).set li (some vs[i])).set li none = σ.set li none
      rw [List.set_set, List.set_set]
    · refine lot_cond s1 hacc (by rw [same b hbL]; exact hb2) hbL (hne _ (List.getElem_mem hlt)) (n := n) (x := x) (vk := vk) ?_ ?_ ?_ fk1 d1 d2 d3 hX hf (hβ _ (List.getElem_mem hlt)) fun H3 s3 same3 hacc3 => ?_
      · rw [List.getElem?_set_self wl, hb1]
      · rw [List.getElem?_set_ne (Ne.symm d1), wipe_out (by simpa using d1)]
        exact en
      · rw [List.getElem?_set_ne d3, wipe_out (by simpa using Ne.symm d3)]
        exact ek
      · have same' : ∀ c ∈ L, H3 c = H c := fun c hc => (same3 c hc).trans (same c hc)
        cases hbb : β (ts[i].headD 0) with
        | false =>
          rw [if_neg (by simp)]
          exact ⟨rfl, by omega, s3, same', by rw [step false hbb, if_neg (by simp)]; exact hacc3⟩
        | true =>
          rw [if_pos rfl]
          refine ⟨vs[i], by rw [List.getElem?_set_self wl], selV β vs ts i, hacc3, ?_, rfl, by omega, (s3.written hacc3 GD FD DL).st, fun c hc => ?_, by rw [upd_same, step true hbb, if_pos rfl]⟩
          · have : (selV β vs ts i).length ≤ ts.length := by
              unfold selV
              rw [List.length_map]
              refine Nat.le_trans (List.length_filter_le _ _) ?_
              rw [List.length_take, List.length_zip]
              omega
            rw [sizeLine_eq]
            omega
          · rw [upd_ne fun z => DL (by rw [← z]; exact hc)]
            exact same' c hc
  · have e : i = ts.length := by omega
    subst e
    refine .inl ⟨⟨vs, SqL.of hA1, by omega⟩, k D H1 a vs M' s1 same DL FD GD ev hA r sub vlen ?_⟩
    have : selV β vs ts ts.length = ((vs.zip ts).filter fun p => β (p.2.headD 0)).map (·.1) := by
      unfold selV
      rw [List.take_of_length_le (by rw [List.length_zip]; omega)]
    rw [← this]
    exact hacc
end
section
theorem dq_sel {H : Hp} : ∀ {zs : List (V × List Int)}, (∀ q ∈ zs, ∃ b, q.1 = .ref b ∧ H b = some (.lst (q.2.map V.int))) → DqAll H (zs.map (·.1)) (zs.map fun p => .list (p.2.map .int))
  | [], _ => .nil
  | z :: zs, h => by
    obtain ⟨b, e, hb⟩ := h z (by simp)
    refine .cons ?_ (dq_sel fun q hq => h q (by simp [hq]))
    show Dq H z.1 (.list (z.2.map .int))
    rw [e]
    exact .lst hb (dq_ints z.2)
theorem shal_sel (zs : List (V × List Int)) : shal 30 (.list (zs.map fun p => .list (p.2.map .int))) = true := by
  show (zs.map fun p : V × List Int => PyData.list (p.2.map .int)).all (shal 29) = true
  rw [List.all_map]
  refine List.all_eq_true.mpr fun p _ => ?_
  show (p.2.map PyData.int).all (shal 28) = true
  rw [List.all_map]
  exact List.all_eq_true.mpr fun _ _ => rfl
theorem eqv_sel (zs : List (V × List Int)) : PyData.eqv (.list (zs.map fun p => .list (p.2.map .int))) (.list []) = zs.isEmpty := by
  cases zs <;> rfl
variable {Γ : Gam} {Φ : Phi} {j : Nat} {N : List Str} {sc : Scope} {X : Cx} {kp : Option Nat} {fi ni hi li ki : Nat} {lam : Str} {rest : List Stmt} {wb : WS}
theorem ss_lot (g : Gd Γ N sc X) (c : GdC Φ j X) (hk : sc.kind = .function) (hkp : kpB kp hi = true) (hkp2 : kpB kp fi = true) : ∀ {s1 s2 : Stmt}, lotB N sc fi ni hi li ki lam s1 s2 = true → PSts kp X rest wb →
    PSts kp X (s1 :: s2 :: rest) (fun D ρ => hi < ρ.length ∧ li < ρ.length ∧ ∃ (ts : List (List Int)) (n : Int) (x : Tv) (fe : FE) (β : Int → Bool), ρ[fi]? = some (some (.own (ts.map lotT))) ∧ ρ[ni]? = some (some (.d (.int n))) ∧ ρ[ki]? = some (some x) ∧ LotX lam fe x ∧ Φ lam = some fe ∧
      ts.length < 1000 ∧ (∀ l ∈ ts, l ≠ [] ∧ l.length < 1000) ∧ (∀ l ∈ ts, ∀ Q' : Tv → List (Option Tv) → Prop, (∀ rest, Q' (.d (.bool (β (l.headD 0)))) rest) → fe.fs [x, .d (.int (l.headD 0)), .d (.int n)] Q') ∧
      wb D ((ρ.set hi none).set fi (some (.own ((addLot β n ts).map lotT))))) := by
  intro s1 s2 hB hr
  unfold lotB at hB
  split at hB
  · rename_i h0 ph l1 p1 l0 p0 f0 pf cds scope pos spos h1 q1 q2 q3 f1 a1 q5 n1 q7 q8 q9 h2 r1 r2 r3 r4 a2 r5 n2 r7 r8 r9
    simp only [Bool.and_eq_true, decide_eq_true_eq] at hB
    obtain ⟨⟨⟨⟨⟨⟨⟨⟨⟨⟨⟨⟨⟨⟨⟨⟨⟨⟨⟨⟨⟨⟨⟨⟨⟨⟨⟨b1, b2⟩, b3⟩, b4⟩, b5⟩, b6⟩, b7⟩, b8⟩, b9⟩, b10⟩, b11⟩, b12⟩, b13⟩, b14⟩, b15⟩, b16⟩, b17⟩, b18⟩, d1⟩, d2⟩, d3⟩, d4⟩, d5⟩, d6⟩, d7⟩, d8⟩, d9⟩, d10⟩ := hB
    have hb7 : (decide (N[fi]? = some f0) && visB sc f0 && nmB f0) = true := by
      simp only [Bool.and_eq_true, decide_eq_true_eq]
      exact b7
    obtain ⟨y1, z1, e1, m1⟩ := okSE_var b10
    cases e1
    obtain ⟨y2, z2, e2, m2⟩ := okSE_var b11
    cases e2
    obtain ⟨y3, z3, rfl, m3⟩ := okSE_var b13
    obtain ⟨y4, z4, rfl, m4⟩ := okSE_var b14
    obtain ⟨y5, z5, e5, m5⟩ := okSE_var b9
    cases e5
    subst b15
    subst b16
    have nd : X.N.Nodup := by rw [g.nm]; exact g.nd
    have bk : BlkOk X.N X.env.scope scope (ownOf N [li]) := by rw [g.nm, g.sc]; exact blkOk_by b4
    have hsw : swapsWith (.ListComp (.Name l1 p1) [⟨.Name l0 p0, .Name f0 pf, cds, 0⟩] scope pos) (some (.Name h0 ph)) spos.line X.env = pure true := by
      rw [swL_eq g.sc hk (.inr ⟨_, _, _, _, rfl⟩), b3]
    have ps1 : PS X (.Assign [.Name h0 ph] (.ListComp (.Name l1 p1) [⟨.Name l0 p0, .Name f0 pf, cds, 0⟩] scope pos) spos) (tAsg (tLc (iSeq X.K (tVar fi)) (gName li) (liftC X.K (wC Γ Φ (.som (lotTest li ni ki lam)))) (tVar li) ((ownOf N [li]).map (·.2))) (gName hi)) :=
      ps_setLc (g := gName li) (tt := liftC X.K (wC Γ Φ (.som (lotTest li ni ki lam)))) (te := tVar li) g.calm nd (by rw [g.nm]; exact b1) (by rw [g.sc]; exact b2) hsw (pi_seq (e_name g hb7)) bk
        (fun s H C cl fp => pg_name (X := X.blk s H scope (compEnvC scope cl C X.env) fp) nd (by show X.N[li]? = some l0; rw [g.nm]; exact b5) ((GdT.blk scope s H C cl fp).loc l0 b6) ((GdT.blk scope s H C cl fp).fn l0 b6))
        (fun s H C cl fp => C_ok (.som (lotTest li ni ki lam)) (g.blk scope s H C cl fp) (c.blk scope s H C cl fp) cds b8)
        (fun s H C cl fp => e_name (g.blk scope s H C cl fp) m5) (folded_plain (e := .Name f0 pf) rfl)
    rw [ownOf_snd] at ps1
    have eL : okE N sc (.lst (.cons (.sim (.var ni)) .nil)) (.List [.Name y3 z3] q7) = true := by
      show (decide ([Expr.Name y3 z3].length ≤ 1000) && okEL N sc (.cons (.sim (.var ni)) .nil) [.Name y3 z3]) = true
      show (true && (plainE (.Name y3 z3) && okE N sc (.sim (.var ni)) (.Name y3 z3) && okEL N sc .nil [])) = true
      show (true && (true && okSE N sc (.var ni) (.Name y3 z3) && true)) = true
      rw [b13]
      rfl
    have pA := pss_one (s_expr (kp := kp) (pos := q9) (m_app (apos := q5) (pos := q8) g b12 (E_ok (.lst (.cons (.sim (.var ni)) .nil)) g c _ eL).pe rfl b17) rfl)
    have pR : PE X (.Subscript (.Name h2 r1) (.Constant (.int 0) r2 r3) r4) (tOp (rIxL X.K) (tVar hi) (tC (.int 0))) := pe_ix ix_list (e_name g m2) pe_int (ix_plain rfl)
    have pB : PSs X [.Expr (.Call (.Attribute (.Subscript (.Name h2 r1) (.Constant (.int 0) r2 r3) r4) "append" r5) [.Name y4 z4] [] r7) r8] (tDrop (tBM X.K "list" rAppend (tOp (rIxL X.K) (tVar hi) (tC (.int 0))) (tCons (tVar ni) tNil))) := pss_one (ps_expr (pos := r8) (pe_bm (cpos := r7) (apos := r5) PySem.F.plainAttrs_list PySem.F.slot_list_append PySem.F.type_list_append mt_append pR (pa_cons (e_name g m4) pa_nil (starEach_plain rfl)) rfl (few1 rfl) b18 (starEach_plain rfl)))
    have pC : PT X (.Compare (.Name h1 q1) [.Eq] [.List [] q2] q3) (tTest (tOp (rCmp .eq) (tVar hi) (tLst tNil))) := pt_cmpR (pos := q3) (op_cmp g.un .eq) (e_name g m1) (pe_lst (pos := q2) pa_nil) (behind_plain rfl)
    have ps2 := ps_if (pos := r9) pC pA pB
    refine PSs.imp (pss_cons ps1 (pss_cons ps2 hr)) fun D σ H ⟨F, G, ρ, L, D', s, ⟨hhi, hli, ts, n, xk, fe, β, v1, v2, v3, hX, hf, hlen, hts, hβ, hw⟩, k⟩ => ?_
    rw [tSeq, tAsg]
    refine lot_loop (Γ := Γ) s v1 v2 v3 hli d6 d7 d10 hX hf hlen (fun l hl => (hts l hl).1) hβ fun Dd H1 a vs M' st1 same DL FD GD ev hA r sub vlen hsel => ?_
    have hsub : ∀ q ∈ (vs.zip ts).filter (fun p => β (p.2.headD 0)), ∃ b, q.1 = .ref b ∧ H1 b = some (.lst (q.2.map V.int)) := fun q hq => by
      obtain ⟨jj, hj⟩ := List.getElem?_of_mem (List.mem_filter.mp hq).1
      have e1 : vs[jj]? = some q.1 ∧ ts[jj]? = some q.2 := by
        have hl := (List.getElem?_eq_some_iff.mp hj).1
        rw [List.length_zip] at hl
        rw [List.getElem?_eq_getElem (by rw [List.length_zip]; exact hl), List.getElem_zip] at hj
        have hj := Option.some.inj hj
        rw [List.getElem?_eq_getElem (by omega), List.getElem?_eq_getElem (by omega), ← hj]
        exact ⟨rfl, rfl⟩
      obtain ⟨b, f1, f2, f3⟩ := ors_lots r e1.2
      rw [e1.1] at f1
      exact ⟨b, Option.some.inj f1, by rw [same b (sub b f3)]; exact f2⟩
    obtain ⟨vn, _, _, _, _, en, rn, _⟩ := s.sr.at v2
    have hn := rn.dq.1.int_of
    subst hn
    obtain ⟨L2, s2, sub2⟩ := st1.drop hi (some (.ref Dd))
    have hσ : hi < σ.length := by rw [← s.sr.length]; exact hhi
    show tTest (tOp (rCmp .eq) (tVar hi) (tLst tNil)) (σ.set hi (some (.ref Dd))) H1 _
    refine ⟨.ref Dd, List.getElem?_set_self hσ, by show 0 ≤ sizeLine; omega, fun p hp => ?_⟩
    have pD : Dd ≠ p := fun z => by rw [z, hp] at hsel; cases hsel
    have hsel2 : upd H1 p (.lst []) Dd = some (.lst (((vs.zip ts).filter fun p => β (p.2.headD 0)).map (·.1))) := by rw [upd_ne pD]; exact hsel
    have s3 := s2.made (o := .lst []) hp
    have hsub2 : ∀ q ∈ (vs.zip ts).filter (fun p => β (p.2.headD 0)), ∃ b, q.1 = .ref b ∧ upd H1 p (.lst []) b = some (.lst (q.2.map V.int)) := fun q hq => by
      obtain ⟨b, f1, f2⟩ := hsub q hq
      exact ⟨b, f1, by rw [upd_ne fun z => by rw [z, hp] at f2; cases f2]; exact f2⟩
    have ρfi : (ρ.set hi none)[fi]? = some (some (.own (ts.map lotT))) := by rw [List.getElem?_set_ne (Ne.symm d2)]; exact v1
    have ρni : (ρ.set hi none)[ni]? = some (some (.d (.int n))) := by rw [List.getElem?_set_ne (Ne.symm d5)]; exact v2
    have σni : (σ.set hi (some (.ref Dd)))[ni]? = some (some (.int n)) := by rw [List.getElem?_set_ne (Ne.symm d5)]; exact en
    have hkk : kept kp σ (σ.set hi (some (.ref Dd))) := kept.set (kpB_ne hkp)
    have K1 : KS X.K kp F G (σ.set hi (some (.ref Dd))) D' D := k.step s2.aft hkk
    refine ⟨.list (((vs.zip ts).filter fun p => β (p.2.headD 0)).map fun p => .list (p.2.map .int)), .list [], .lst hsel2 (dq_sel hsub2), .lst upd_same .nil, shal_sel _, rfl, ?_⟩
    rw [eqv_sel]
    refine ⟨_, rfl, ?_⟩
    cases hz : (vs.zip ts).filter (fun p => β (p.2.headD 0)) with
    | nil =>
      have hnone := sel_none (β := β) vlen (by rw [hz]; rfl)
      rw [if_pos List.isEmpty_nil]
      refine ⟨F, G, ρ.set hi none, L2, { D' with nx := fun ρ1 => wb D' ρ1 }, s3.st, ⟨⟨_, ρfi⟩, ?_⟩, ⟨fun ρ1 σ1 G1 H3 L3 a hk hq => ⟨F, G1, ρ1, L3, D', a.st, hq, (K1.step s3 kept.refl).step a hk⟩, (K1.step s3 kept.refl).bk, (K1.step s3 kept.refl).ct, (K1.step s3 kept.refl).rt⟩⟩
      rw [wE]
      have v2' : sv Γ (ρ.set hi none) (.var ni) = some (.d (.int n)) := by
        show ((ρ.set hi none)[ni]?).join = _
        rw [ρni]
        rfl
      simp only [wEs, wE, simV, v2']
      refine ⟨_, ρfi, by rw [List.length_map, sizeLine_eq]; omega, ?_⟩
      rw [addLot_none hnone, List.map_append] at hw
      exact hw
    | cons z zs =>
      obtain ⟨j, l, g1, g2, g3⟩ := sel_first (n := n) (v := z.1) (r := zs.map (·.1)) vlen (by rw [hz]; rfl)
      rw [if_neg (by simp)]
      have hl := hts l (List.mem_of_getElem? g2)
      obtain ⟨a2, vs2, b2, ws2, N', f1, f2, f3, f4, f5, f6, f7, f8, wr⟩ := s3.st.own2 (j1 := j) (us := (l.map .int).map .d) ρfi (by rw [List.getElem?_map, g2]; rfl)
      rw [List.getElem?_set_ne (Ne.symm d2), ev] at f1
      cases f1
      have hA1 : upd H1 p (.lst []) a = some (.lst vs) := by
        have aL : a ∈ L := by
          obtain ⟨a', _, _, ev', _, _, _, _, aL, _⟩ := s.own v1
          rw [ev] at ev'
          cases ev'
          exact aL
        rw [upd_ne (fun z => by rw [← z, same a aL, hA] at hp; cases hp), same a aL, hA]
      rw [hA1] at f2
      cases f2
      rw [g1] at f4
      have f4 := Option.some.inj f4
      obtain ⟨rfl, rfl⟩ := ors_ints f6
      obtain ⟨L4, s4⟩ := wr (us' := (l.map .int).map .d ++ [.d (.int n)]) (ws' := l.map V.int ++ [.int n]) (M'' := []) (f6.append (.d (.int n))) List.nodup_nil fun _ z => absurd z (by simp)
      refine ⟨.ref Dd, List.getElem?_set_self hσ, ⟨Dd, _, 0, z.1, rfl, rfl, SqL.of hsel2, by rw [hz]; exact at_zero _ _, ?_, .int n, σni, b2, l.map V.int, .int n, f4, rfl, f5, by rw [List.length_map, sizeLine_eq]; omega, ?_⟩⟩
      · rw [f4]
        exact .inl ⟨rfl, _, .inl (.inl f5)⟩
      · refine ⟨F, G, _, L4, D', s4.st, ?_, (K1.step s3 kept.refl).step s4 kept.refl⟩
        rw [g3, List.map_set] at hw
        have : lotT (l ++ [n]) = .own ((l.map .int).map .d ++ [.d (.int n)]) := by
          unfold lotT
          rw [List.map_append, List.map_append]
          rfl
        rw [this] at hw
        exact hw
  · cases hB
end
end Tr
set_option Elab.async false
set_option linter.all false
set_option maxRecDepth 100000
set_option maxHeartbeats 4000000
namespace Tr
open PySem PySem.Spec PyProof.Rows L2
/-- arguments of which the last is a lambda -/
def okELF (N : List Str) (sc : Scope) (ok : LamK → Bool) (caps : List (Str × Nat)) : EL → List Expr → Bool
  | .nil, xs => (match xs with | [.Lambda p b s _] => lamFree sc ⟨p, b, s⟩ caps && ok ⟨p, b, s⟩ | _ => false)
  | .cons e es, xs => (match xs with | x :: xs => plainE x && okE N sc e x && okELF N sc ok caps es xs | [] => false)
def okCF (N : List Str) (sc : Scope) (f : Str) (es : EL) (ok : LamK → Bool) (caps : List (Str × Nat)) : Expr → Bool
  | .Call (.Name f' _) xs [] _ => decide (f' = f) && glB sc f && nmB f && !lamB f && caps.all (fun p => decide (N[p.2]? = some p.1)) && okELF N sc ok caps es xs
  | _ => false
def notFz : E → Bool
  | .fza _ => false
  | .fzl _ => false
  | _ => true
mutual
def okS (N : List Str) (sc : Scope) (kp : Option Nat) (lm : Bool) : S → Stmt → Bool
  | .set i e, st => (match st with | .Assign [.Name x p] v _ => decide (N[i]? = some x) && locB sc x && kpB kp i && (notComp v || isComp v && notFz e) && okE N sc e v | _ => false)
  | .unp (.tup tt) e, st => (match st with | .Assign [.Tuple ts k p] v _ => okTg N (locB sc) (.tup tt) (.Tuple ts k p) && (tgVs (.tup tt)).all (kpB kp) && notTup v && okE N sc e v | _ => false)
  | .unp _ _, _ => false
  | .par is es, st => (match st with | .Assign [.Tuple ts _ _] (.Tuple vs _ _) _ => okNames N (locB sc) is ts && is.all (kpB kp) && decide (vs.length ≤ 1000) && decide (ts.length = vs.length) && okEL N sc es vs && swB sc ts vs | _ => false)
  | .ix1 i k e, st => (match st with | .Assign [.Subscript a b _] v _ => okSE N sc (.var i) a && okSE N sc k b && plainE b && okE N sc e v | _ => false)
  | .ix2 i j k e, st => (match st with | .Assign [.Subscript (.Subscript a b0 _) b _] v _ => okSE N sc (.var i) a && okSE N sc j b0 && plainE b0 && okSE N sc k b && plainE b && okE N sc e v | _ => false)
  | .ixp i j k es, st => (match st with | .Assign [.Tuple [.Subscript a b _, .Subscript a2 b2 _] _ _] (.Tuple vs _ _) _ => okSE N sc (.var i) a && okSE N sc j b && plainE b && okSE N sc (.var i) a2 && okSE N sc k b2 && plainE b2 && okEL N sc es vs && decide (vs.length ≤ 1000) && decide (vs.length = 2) | _ => false)
  | .ixe i j e, st => (match st with | .Assign [.Subscript a b _] v _ => okSE N sc (.var i) a && okE N sc j b && plainE b && okE N sc e v | _ => false)
  | .dput i j e, st => (match st with | .Assign [.Subscript a b _] v _ => okSE N sc (.var i) a && okE N sc j b && plainE b && okE N sc e v | _ => false)
  | .app i e, st => (match st with | .Expr (.Call (.Attribute l name ap) [r] [] p) _ => decide (name = "append") && okSE N sc (.var i) l && plainE r && (ap.endLine == p.line) && okE N sc e r | _ => false)
  | .ext i e, st => (match st with | .Expr (.Call (.Attribute l name ap) [r] [] p) _ => decide (name = "extend") && okSE N sc (.var i) l && plainE r && (ap.endLine == p.line) && okE N sc e r | _ => false)
  | .exT i e, st => (match st with | .Expr (.Call (.Attribute l name ap) [r] [] p) _ => decide (name = "extend") && okSE N sc (.var i) l && plainE r && (ap.endLine == p.line) && okE N sc e r | _ => false)
  | .expr e, st => (match st with | .Expr v _ => notComp v && okE N sc e v | _ => false)
  | .ret e, st => (match st with | .Return (some v) _ => okE N sc e v | _ => false)
  | .retv i, st => (match st with | .Return (some v) _ => kpB kp i && okSE N sc (.var i) v | _ => false)
  | .retF f es ok caps, st => (match st with | .Return (some v) _ => lm && okCF N sc f es ok caps v | _ => false)
  | .setF i f es ok caps, st => (match st with | .Assign [.Name x p] v _ => lm && decide (N[i]? = some x) && locB sc x && kpB kp i && okCF N sc f es ok caps v | _ => false)
  | .retN, st => (match st with | .Return none _ => true | _ => false)
  | .ite c a b, st => (match st with | .If t x y _ => okE N sc c t && okSL N sc kp lm a x && okSL N sc kp lm b y | _ => false)
  | .for_ tg it body er, st => (match st with | .For tx iter bx [] _ => okTg N (locB sc) tg tx && (tgVs tg).all (kpB kp) && plainE iter && okIt N sc it tx iter && okSL N sc kp lm body bx | _ => false)
  | .while_ c body er, st => (match st with | .While t bx [] _ => okE N sc c t && okSL N sc kp lm body bx | _ => false)
  | .pass, st => (match st with | .Pass _ => true | _ => false)
  | .brk, st => (match st with | .Break _ => true | _ => false)
  | .cont, st => (match st with | .Continue _ => true | _ => false)
  | .never, _ => true
def okSL (N : List Str) (sc : Scope) (kp : Option Nat) (lm : Bool) : SL → List Stmt → Bool
  | .nil, xs => xs.isEmpty
  | .cons s ss, xs => (match xs with | x :: xs => okS N sc kp lm s x && okSL N sc kp lm ss xs | [] => false)
  | .lot fi ni hi li ki lam ss, xs => (match xs with | s1 :: s2 :: xs => lotB N sc fi ni hi li ki lam s1 s2 && kpB kp hi && kpB kp fi && okSL N sc kp lm ss xs | _ => false)
end
section
variable {Γ : Gam} {Φ : Phi} {k : Nat} {N : List Str} {sc : Scope} {X : Cx} {kp : Option Nat} {lm : Bool}
theorem ELF_ok (g : Gd Γ N sc X) (c : GdC Φ k X) (lo : LmOk X) {ok : LamK → Bool} {caps : List (Str × Nat)} : ∀ (es : EL) (xs : List Expr), okELF N sc ok caps es xs = true →
    ∃ kk n, lamFree sc kk caps = true ∧ ok kk = true ∧ PA X xs (liftLF X.K n (wEs Γ Φ es) kk (X.env.qual ++ "<lambda>") (cloFrom X.env.cells kk.scope.names [])) ∧ xs.all plainE = true ∧ xs ≠ []
  | .nil, xs, h => by
    unfold okELF at h
    split at h
    · rename_i p b s pos
      simp only [Bool.and_eq_true] at h
      exact ⟨⟨p, b, s⟩, 0, h.1, h.2, PA.imp (aF_nil lo g.sc h.1) fun σ H R q => by simpa only [wEs] using q, rfl, by simp⟩
    · cases h
  | .cons e es, xs, h => by
    unfold okELF at h
    split at h
    · rename_i x xs
      simp only [Bool.and_eq_true] at h
      obtain ⟨⟨h1, h2⟩, h3⟩ := h
      obtain ⟨kk, n, q1, q2, q3, q4, _⟩ := ELF_ok g c lo es xs h3
      exact ⟨kk, n + 1, q1, q2, PA.imp (aF_cons (E_ok e g c x h2).pe q3 h1) fun σ H R q => by simpa only [wEs] using q, by simp [h1, q4], by simp⟩
    · cases h
theorem CF_ok (g : Gd Γ N sc X) (c : GdC Φ k X) (lo : LmOk X) {f : Str} {es : EL} {ok : LamK → Bool} {caps : List (Str × Nat)} {v : Expr} (h : okCF N sc f es ok caps v = true) :
    PE X v (lift X.K fun ρ Q => ∃ fe, Φ f = some fe ∧ fe.ow = none ∧ wEs Γ Φ es ρ fun xs ρ1 => ∃ as cs, argTs xs = some as ∧ capsV ρ1 caps = some cs ∧ ∀ k, ok k = true → fe.fs (as ++ [.fn k cs]) fun z _ => ∃ d, z = .d d ∧ Q (.d d) ρ1) ∧ notComp v = true := by
  unfold okCF at h
  split at h
  · rename_i f' px xs pos
    simp only [Bool.and_eq_true, decide_eq_true_eq, Bool.not_eq_true'] at h
    obtain ⟨⟨⟨⟨⟨rfl, h2⟩, h3⟩, h4⟩, h5⟩, h6⟩ := h
    obtain ⟨kk, n, q1, q2, q3, q4, q5⟩ := ELF_ok g c lo es xs h6
    cases xs with
    | nil => exact absurd rfl q5
    | cons x xs =>
      rw [List.all_cons, Bool.and_eq_true] at q4
      exact ⟨e_callF g c lo h2 h3 h4 h5 q1 q2 q3 q4.1 q4.2, rfl⟩
  · cases h
theorem PS.eqv {st : Stmt} {w w' : WS} (h : PSt kp X st w) (e : ∀ D ρ, w' D ρ → w D ρ) : PSt kp X st w' := PS.imp h fun D σ H ⟨F, G, ρ, L, D', s, hw, kt⟩ => ⟨F, G, ρ, L, D', s, e D' ρ hw, kt⟩
mutual
theorem S_ok (g : Gd Γ N sc X) (c : GdC Φ k X) (t : GdT (locB sc) X) (po : GdP X) (hk : sc.kind = .function) (lo : lm = true → LmOk X) : ∀ (s : S) (st : Stmt), okS N sc kp lm s st = true → PSt kp X st (wS Γ Φ s)
  | .set i e, st, h => by
    unfold okS at h
    split at h
    · simp only [Bool.and_eq_true, decide_eq_true_eq, Bool.or_eq_true] at h
      obtain ⟨⟨⟨⟨h1, h2⟩, h3⟩, h4⟩, h5⟩ := h
      rename_i x p v pos
      have hsw := swL_eq (line := pos.line) (y := x) (py := p) g.sc hk (h4.imp id fun z => isComp_eq z.1)
      cases hb : swL sc v x p with
      | false =>
        rw [hb] at hsw
        exact s_set g t h1 h2 (kpB_ne h3) (E_ok e g c v h5).pe hsw
      | true =>
        rw [hb] at hsw
        have hl : sc.names.lookup x = some .local := by
          unfold swL at hb
          split at hb
          · simp only [Bool.and_eq_true, beq_iff_eq] at hb
            exact hb.1.1
          · cases hb
        cases e with
        | lc elt tg it d vs =>
          unfold okE at h5
          split at h5
          · simp only [Bool.and_eq_true] at h5
            obtain ⟨⟨⟨⟨⟨⟨q1, q2⟩, q3⟩, q4⟩, q5⟩, q6⟩, q7⟩ := h5
            rename_i e' tx iter ifs scope p'
            have hv : ∀ i ∈ tgVs tg, i ∈ (ownOf N vs).map (·.2) := fun i hi => by
              rw [ownOf_snd]
              have := List.all_eq_true.mp q3 i hi
              simpa using this
            have q := s_lc g (own := ownOf N vs) h1 hl hsw hv (It_ok it g c tx iter q5) q1 q2 (fun s H C cl fp => C_ok d (g.blk scope s H C cl fp) (c.blk scope s H C cl fp) _ q6) (fun s H C cl fp => (E_ok elt (g.blk scope s H C cl fp) (c.blk scope s H C cl fp) _ q7).pe) q4
            rw [ownOf_snd] at q
            refine PS.imp q fun D σ H hq => tAsg_set (kp := kp) (kpB_ne h3) ?_
            obtain ⟨F, G, ρ, L, D', s, hw, kt⟩ := hq
            rw [wS, wE] at hw
            exact ⟨F, G, ρ, L, D', s, hw, kt⟩
          · cases h5
        | lcO elt tg i0 d vs =>
          unfold okE at h5
          split at h5
          · simp only [Bool.and_eq_true] at h5
            obtain ⟨⟨⟨⟨⟨q1, q2⟩, q3⟩, q4⟩, q6⟩, q7⟩ := h5
            rename_i e' tx z0 p0 ifs scope p'
            have hv : ∀ i ∈ tgVs tg, i ∈ (ownOf N vs).map (·.2) := fun i hi => by
              rw [ownOf_snd]
              have := List.all_eq_true.mp q3 i hi
              simpa using this
            have q := s_lcO g (i0 := i0) (z0 := z0) (p0 := p0) (own := ownOf N vs) h1 hl hsw hv (by simpa only [Bool.and_eq_true] using q4) q1 q2 (fun s H C cl fp => C_ok d (g.blk scope s H C cl fp) (c.blk scope s H C cl fp) _ q6) (fun s H C cl fp => (E_ok elt (g.blk scope s H C cl fp) (c.blk scope s H C cl fp) _ q7).pe)
            rw [ownOf_snd] at q
            refine PS.imp q fun D σ H hq => tAsg_set (kp := kp) (kpB_ne h3) ?_
            obtain ⟨F, G, ρ, L, D', s, hw, kt⟩ := hq
            rw [wS, wE] at hw
            exact ⟨F, G, ρ, L, D', s, hw, kt⟩
          · cases h5
        | fza _ =>
          exfalso
          obtain ⟨a, b, c', d, rfl⟩ : ∃ a b c d, v = .ListComp a b c d := by
            unfold swL at hb
            split at hb
            · exact ⟨_, _, _, _, rfl⟩
            · cases hb
          exact h4.elim (fun z => nomatch (show false = true from z)) fun z => nomatch (show false = true from z.2)
        | fzl _ =>
          exfalso
          obtain ⟨a, b, c', d, rfl⟩ : ∃ a b c d, v = .ListComp a b c d := by
            unfold swL at hb
            split at hb
            · exact ⟨_, _, _, _, rfl⟩
            · cases hb
          exact h4.elim (fun z => nomatch (show false = true from z)) fun z => nomatch (show false = true from z.2)
        | _ =>
          exfalso
          obtain ⟨a, b, c', d, rfl⟩ : ∃ a b c d, v = .ListComp a b c d := by
            unfold swL at hb
            split at hb
            · exact ⟨_, _, _, _, rfl⟩
            · cases hb
          first
            | exact nomatch (show false = true from h5)
            | (unfold okE at h5; exact nomatch (show false = true from h5))
            | (rename_i s0; cases s0 <;> exact nomatch (show false = true from h5))
            | (rename_i t0 a0 b0; cases a0 <;> exact nomatch (show false = true from h5))
    · cases h
  | .unp (.tup tt) e, st, h => by
    unfold okS at h
    split at h
    · simp only [Bool.and_eq_true] at h
      obtain ⟨⟨⟨h1, h2⟩, h3⟩, h4⟩ := h
      rw [wS]
      exact s_unp g t h1 (kpB_all h2) (E_ok e g c _ h4).pe h3
    · cases h
  | .unp (.name i) e, st, h => by
    unfold okS at h
    cases h
  | .par is es, st, h => by
    unfold okS at h
    split at h
    · simp only [Bool.and_eq_true, decide_eq_true_eq] at h
      obtain ⟨⟨⟨⟨⟨h1, h2⟩, h3⟩, h4⟩, h5⟩, h6⟩ := h
      rename_i ts k1 p1 vs k2 p2 p3
      have hlen := (g_names g t is ts h1).2.2.1
      rw [wS]
      unfold swB at h6
      split at h6
      · rename_i hs
        exact s_par g t h1 (kpB_all h2) (EL_ok es g c vs h5) h3 (by rw [hlen, h4]) (sw_eq g.sc hk hs)
      · rename_i xs hs
        simp only [Bool.and_eq_true, decide_eq_true_eq, Bool.or_eq_true] at h6
        obtain ⟨⟨⟨q1, q2⟩, q3⟩, q4⟩ := h6
        exact s_par2 g h1 (kpB_all h2) (EL_ok es g c vs h5) h4.symm (fun x hx => by have := List.all_eq_true.mp q1 x hx; simpa using this) q2 q3 q4 (sw_eq g.sc hk hs)
      · cases h6
    · cases h
  | .ix1 i k1 e, st, h => by
    unfold okS at h
    split at h
    · simp only [Bool.and_eq_true] at h
      rw [wS]
      exact s_ix1 g h.1.1.1 h.1.1.2 h.1.2 (E_ok e g c _ h.2).pe
    · cases h
  | .ix2 i j k1 e, st, h => by
    unfold okS at h
    split at h
    · simp only [Bool.and_eq_true] at h
      obtain ⟨⟨⟨⟨⟨h1, h2⟩, h3⟩, h4⟩, h5⟩, h6⟩ := h
      rw [wS]
      exact s_ix2 g h1 h2 h3 h4 h5 (E_ok e g c _ h6).pe
    · cases h
  | .ixp i j k1 es, st, h => by
    unfold okS at h
    split at h
    · simp only [Bool.and_eq_true, decide_eq_true_eq] at h
      obtain ⟨⟨⟨⟨⟨⟨⟨⟨h1, h2⟩, h3⟩, h4⟩, h5⟩, h6⟩, h7⟩, h8⟩, h9⟩ := h
      rename_i vs k5 p5 p6
      rw [wS]
      exact s_ixp g h1 h2 h3 h4 h5 h6 (EL_ok es g c vs h7) h8 (sw_eq g.sc hk (sw_sub h9))
    · cases h
  | .ixe i j e, st, h => by
    unfold okS at h
    split at h
    · simp only [Bool.and_eq_true] at h
      rw [wS]
      exact s_ixe g h.1.1.1 (E_ok j g c _ h.1.1.2).pe h.1.2 (E_ok e g c _ h.2).pe
    · cases h
  | .dput i j e, st, h => by
    unfold okS at h
    split at h
    · simp only [Bool.and_eq_true] at h
      rw [wS]
      exact s_dput g h.1.1.1 (E_ok j g c _ h.1.1.2).pe h.1.2 (E_ok e g c _ h.2).pe
    · cases h
  | .app i e, st, h => by
    unfold okS at h
    split at h
    · simp only [Bool.and_eq_true, decide_eq_true_eq] at h
      obtain ⟨⟨⟨⟨rfl, h2⟩, h3⟩, h4⟩, h5⟩ := h
      rw [wS]
      exact s_expr (m_app g h2 (E_ok e g c _ h5).pe h3 h4) rfl
    · cases h
  | .ext i e, st, h => by
    unfold okS at h
    split at h
    · simp only [Bool.and_eq_true, decide_eq_true_eq] at h
      obtain ⟨⟨⟨⟨rfl, h2⟩, h3⟩, h4⟩, h5⟩ := h
      rw [wS]
      exact s_expr (m_ext g h2 (E_ok e g c _ h5).pe h3 h4) rfl
    · cases h
  | .exT i e, st, h => by
    unfold okS at h
    split at h
    · simp only [Bool.and_eq_true, decide_eq_true_eq] at h
      obtain ⟨⟨⟨⟨rfl, h2⟩, h3⟩, h4⟩, h5⟩ := h
      rw [wS]
      exact s_expr (m_exT g h2 (E_ok e g c _ h5).pe h3 h4) rfl
    · cases h
  | .expr e, st, h => by
    unfold okS at h
    split at h
    · simp only [Bool.and_eq_true] at h
      rw [wS]
      exact s_expr (E_ok e g c _ h.2).pe h.1
    · cases h
  | .ret e, st, h => by
    unfold okS at h
    split at h
    · rw [wS]
      exact s_ret (E_ok e g c _ h).pe
    · cases h
  | .retv i, st, h => by
    unfold okS at h
    split at h
    · simp only [Bool.and_eq_true] at h
      rw [wS]
      exact s_retv g (kpB_ne h.1) h.2
    · cases h
  | .retF f es ok caps, st, h => by
    unfold okS at h
    split at h
    · simp only [Bool.and_eq_true] at h
      rw [wS]
      exact s_ret (CF_ok g c (lo h.1) h.2).1
    · cases h
  | .setF i f es ok caps, st, h => by
    unfold okS at h
    split at h
    · simp only [Bool.and_eq_true, decide_eq_true_eq] at h
      obtain ⟨⟨⟨⟨h1, h2⟩, h3⟩, h4⟩, h5⟩ := h
      obtain ⟨q1, q2⟩ := CF_ok g c (lo h1) h5
      rw [wS]
      exact s_set g t h2 h3 (kpB_ne h4) q1 (sw_not q2)
    · cases h
  | .retN, st, h => by
    unfold okS at h
    split at h
    · rw [wS]
      exact s_retN
    · cases h
  | .ite d a b, st, h => by
    unfold okS at h
    split at h
    · simp only [Bool.and_eq_true] at h
      rw [wS]
      exact s_if (E_ok d g c _ h.1.1).pt (SL_ok g c t po hk lo a _ h.1.2) (SL_ok g c t po hk lo b _ h.2)
    · cases h
  | .for_ tg it body er, st, h => by
    unfold okS at h
    split at h
    · simp only [Bool.and_eq_true] at h
      obtain ⟨⟨⟨⟨h1, h2⟩, h3⟩, h4⟩, h5⟩ := h
      rw [wS]
      exact s_for g t po er (It_ok it g c _ _ h4) h1 (kpB_all h2) (SL_ok g c t po hk lo body _ h5) h3
    · cases h
  | .while_ d body er, st, h => by
    unfold okS at h
    split at h
    · simp only [Bool.and_eq_true] at h
      rw [wS]
      exact s_while po er (E_ok d g c _ h.1).pt (SL_ok g c t po hk lo body _ h.2)
    · cases h
  | .pass, st, h => by
    unfold okS at h
    split at h
    · rw [wS]
      exact s_pass
    · cases h
  | .brk, st, h => by
    unfold okS at h
    split at h
    · rw [wS]
      exact s_brk
    · cases h
  | .cont, st, h => by
    unfold okS at h
    split at h
    · rw [wS]
      exact s_cont
    · cases h
  | .never, st, h => by
    rw [wS]
    exact s_never
theorem SL_ok (g : Gd Γ N sc X) (c : GdC Φ k X) (t : GdT (locB sc) X) (po : GdP X) (hk : sc.kind = .function) (lo : lm = true → LmOk X) : ∀ (s : SL) (st : List Stmt), okSL N sc kp lm s st = true → PSts kp X st (wSL Γ Φ s)
  | .nil, st, h => by
    have h : st.isEmpty = true := h
    rw [List.isEmpty_iff] at h
    subst h
    exact ss_nil
  | .cons s ss, [], h => nomatch (show false = true from h)
  | .cons s ss, x :: xs, h => by
    have h : (okS N sc kp lm s x && okSL N sc kp lm ss xs) = true := h
    simp only [Bool.and_eq_true] at h
    have q := ss_cons (kp := kp) (S_ok g c t po hk lo s x h.1) (SL_ok g c t po hk lo ss xs h.2)
    rw [wSL]
    exact q
  | .lot fi ni hi li ki lam ss, xs, h => by
    unfold okSL at h
    split at h
    · rename_i s1 s2 xs
      simp only [Bool.and_eq_true] at h
      obtain ⟨⟨⟨h1, h2⟩, h3⟩, h4⟩ := h
      rw [wSL]
      exact ss_lot g c hk h2 h3 h1 (SL_ok g c t po hk lo ss xs h4)
    · cases h
end
end
/-- what stands of the module around: its globals, the built-ins, the defs that may be called -/
structure GdM (Γ : Gam) (Φ : Phi) (k : Nat) (P : Program) (w : World) (K : PySem.W.Frag) (mg : Str → Option Value) (base : Heap) : Prop where
  bl : ∀ x ∈ bnames, mg x = none
  gl : ∀ x d, Γ x = some d → ∃ u v, mg x = some u ∧ RelV v u ∧ ∀ G, Dq G v d
  lms : ∀ f fe, Φ f = some fe → lamB f = true → LamHas P w K mg base k fe
  fns : ∀ f fe, Φ f = some fe → lamB f = false → ∃ addr fd, mg f = some (.ref addr) ∧ PySem.W.keepIn K (.ref addr) = true ∧ GnOk P w K mg base k addr fd fe.ps (liftF K fe.ow fe.fs) ∧ Binds K fd fe.ps [] ∧ ∀ ks ∈ fe.kw, BK fd fe.ps ks
/-- a def by its body, its code object known -/
theorem gn_ofC {P : Program} {w : World} {K : PySem.W.Frag} {mg : Str → Option Value} {base : Heap} {k : Nat} {x qual : Str} {st : Stmt} {f : Addr} {fd : FuncData} {N ps : List Str} {sp : List V → Hp → VK → Prop}
    (F : Fun K x qual st f fd) (S : FnScope N ps (defScope st)) (len : ∀ vs H Q, sp vs H Q → vs.length = ps.length)
    (body : ∀ (A : Around) (outer : List Env) (s : Shared) (H : Hp) (vs : List V) (Q : VK), Room k (A.deeper (envOfC qual (defScope st) s.heap.objs.size f fd.code)) → A.guards = some [] → sp vs H Q →
      ∃ t, PSs (cxOf CX0 P w K mg base N qual (defScope st) f fd.code A outer s H fun _ _ _ => False).nox (defBody st) t ∧ t { nx := fun _ H' => Q .non H', rt := Q } (start N vs) H) :
    GnOk P w K mg base (k + 1) f fd ps sp := by
  obtain ⟨oc, od, kV, doc, pm, an, cdv, ct, osl, rfl, lk, hcd⟩ := F.ex
  refine ⟨len, fun A outer s H args us vs Q room guards e0 bound rel prom => ?_⟩
  have hl := len _ _ _ prom
  have kin : K.In s.heap := e0.mod.kin.keeps fun b o e => (e0.bs b o e).1
  have par : ∀ y ∈ ps.zip us, (defScope st).names.lookup y.1 = some .local ∨ ((defScope st).names.lookup y.1 = some .cell ∧
      ((cellsFrom (s.heap.objs.size + 1) (defScope st).names []).lookup y.1).isSome = true) := fun ⟨n, v⟩ hy =>
    (S.par n (List.of_mem_zip hy).1).imp id fun q => ⟨q, PySem.W.cellsFrom_some _ _ _ (.inl q)⟩
  refine codeAny_call_function room.depth (kin _ _ lk) rfl S.co S.gen rfl (PySem.W.codeRec_of kin hcd) (bound _ _ _ _ ?_)
  refine wpAny_newFunctionEnv_cells S.kind par fun env he s1 x1 => ?_
  subst he
  refine ⟨(e0.mod.nolimit.keeps fun b o e => (e0.bs b o e).1).keeps x1.toInCall.keep, codeAny_func ?_⟩
  obtain ⟨t, ht, hq⟩ := body A outer s H vs Q (room.deeper _) guards prom
  have inv : Inv (cxOf CX0 P w K mg base N qual (defScope st) f cdv A outer s H fun _ _ _ => False) [] (start N vs) H s1 := inv_start S room.hd e0 hl rel x1
  refine wpAny_mono (ht.nox.run [] s1 (start N vs) H _ inv hq) (fun fl s' hs => ?_) fun e s' hs => hs
  cases fl with
  | ret u =>
    obtain ⟨v, σ', H', J, rv, q⟩ := hs
    exact ⟨v, H', J.os, J.bare, J.base, J.hok, rv, q⟩
  | next =>
    obtain ⟨σ', H', J, q⟩ := hs
    exact ⟨V.non, H', J.os, J.bare, J.base, J.hok, rfl, q⟩
  | brk => obtain ⟨_, _, _, q⟩ := hs; exact False.elim q
  | cont => obtain ⟨_, _, _, q⟩ := hs; exact False.elim q
/-- what stands of a def that makes lambdas -/
def MkOk (K : PySem.W.Frag) (mg : Str → Option Value) (base : Heap) (qual : Str) (fd : FuncData) : Prop :=
  ∃ c P, fd.code = .ref c ∧ LamX.TabB base mg c P ∧ (P, (qual ++ ".<locals>.") ++ "<lambda>") ∈ tabsOf K ∧ ∀ p ∈ tabsOf K, p.1 = P → p.2 = (qual ++ ".<locals>.") ++ "<lambda>"
/-- a def of the text keeps its promise over trees -/
theorem fn_ok {Γ : Gam} {Φ : Phi} {P : Program} {w : World} {K : PySem.W.Frag} {mg : Str → Option Value} {base : Heap} {k : Nat} {x qual : Str} {st : Stmt} {f : Addr} {fd : FuncData} {N ps : List Str} {b : SL} {ow : Option Nat} {lm : Bool}
    (M : GdM Γ Φ k P w K mg base) (F : Fun K x qual st f fd) (S : FnScope N ps (defScope st)) (hb : okSL N (defScope st) ow lm b (defBody st) = true) (hlm : lm = true → MkOk K mg base qual fd) (how : ∀ i, ow = some i → i < ps.length) {sp : FS}
    (hsp : ∀ xs Q, sp xs Q → fsOf Γ Φ ps.length N.length b xs Q) :
    GnOk P w K mg base (k + 1) f fd ps (liftF K ow sp) := by
  refine gn_ofC F S (fun vs H Q ⟨F, G, xs, L, Q', s, hf, _⟩ => ?_) fun A outer s H vs Q room guards ⟨F, G, xs, L, Q', st0, hf, kt⟩ => ?_
  · have h1 := (hsp xs _ hf).1
    have h2 := s.sr.length
    simp only [List.length_map] at h2
    omega
  · obtain ⟨hlen, hw⟩ := hsp xs _ hf
    have hvs : vs.length = ps.length := by
      have h2 := st0.sr.length
      simp only [List.length_map] at h2
      omega
    have g : Gd Γ N (defScope st) (cxOf CX0 P w K mg base N qual (defScope st) f fd.code A outer s H fun _ _ _ => False).nox := ⟨rfl, rfl, S.nd, rfl, guards, by have := room.un; show A.units + 3 + 200 < cLine; have h3 : (A.deeper (envOfC qual (defScope st) s.heap.objs.size f fd.code)).units = A.units + 3 := rfl; omega, M.bl, M.gl⟩
    have c : GdC Φ k (cxOf CX0 P w K mg base N qual (defScope st) f fd.code A outer s H fun _ _ _ => False).nox := ⟨room, M.fns, M.lms⟩
    have loc : ∀ y, locB (defScope st) y = true → Loc (defScope st) y := fun y h => by
      unfold locB at h
      split at h
      · exact Or.inl (by assumption)
      · exact Or.inr (by assumption)
      · cases h
    have t : GdT (locB (defScope st)) (cxOf CX0 P w K mg base N qual (defScope st) f fd.code A outer s H fun _ _ _ => False).nox := ⟨loc, fun _ _ => .inl rfl⟩
    have lo : lm = true → LmOk (cxOf CX0 P w K mg base N qual (defScope st) f fd.code A outer s H fun _ _ _ => False).nox := fun z => by
      obtain ⟨c1, P1, q1, q2, q3, q4⟩ := hlm z
      exact ⟨⟨c1, P1, q1, q2, q3, q4⟩, fun _ => rfl⟩
    refine ⟨_, SL_ok (kp := ow) g c t PassesOwn.never S.kind lo b _ hb, F, G, _, L, _, ?_, hw, ?_⟩
    · have sr := SR.append st0.sr (SR.nones (K := K) (G := G) (H := H) (N.length - ps.length))
      rw [List.append_nil] at sr
      refine ⟨?_, st0.nd, st0.fr, st0.fh, st0.gh, st0.tb, st0.nt, st0.ng⟩
      unfold L2.start
      rw [hvs]
      exact sr
    · have kk : ∀ {σ' : L2.St}, kept ow (L2.start N vs) σ' → ∀ i, ow = some i → σ'[i]? = vs[i]?.map some := fun {σ'} h i e => by
        rw [h i e]
        unfold L2.start
        rw [List.getElem?_append_left (by rw [List.length_map, hvs]; exact how i e), List.getElem?_map]
      exact ⟨fun ρ' σ' G' H' L' a h q => kt _ _ _ _ _ _ _ _ a (Val.pure .non) (kk h) q, fun ρ' σ' G' H' L' a h q => q, fun ρ' σ' G' H' L' a h q => q, fun x v ρ' σ' G' H' L' M a h q r => kt _ _ _ _ _ _ _ _ a q (kk h) r⟩
end Tr
set_option Elab.async false
set_option linter.all false
set_option maxRecDepth 100000
set_option maxHeartbeats 2000000
namespace Tr
open PySem PySem.Spec PyProof.Rows L2
section
variable {Γ : Gam} {Φ : Phi} {P : Program} {w : World} {K : PySem.W.Frag} {mg : Str → Option Value} {base : Heap} {k : Nat}
end
end Tr
set_option Elab.async false
set_option linter.all false
set_option maxRecDepth 100000
set_option maxHeartbeats 4000000
namespace Tr
open PySem PySem.Spec PyProof.Rows L2
theorem tabOf_eq (K : PySem.W.Frag) (x : Str) : tabOf K x = (PySem.W.tabIn K x).map (·.2) := rfl
/-- what is looked at of a law's text: each maker's table is empty, and none of the written part -/
def tabsB (q : Program) (K : PySem.W.Frag) : Bool := (lamMakers.all fun x => !isSomeSome (PySem.W.nsIn K mainGlobals x) || ((recsOf q).any (fun e => e.name == x) && (match PySem.W.tabIn K x with
  | some (_, P) => (K.lookup P).isNone
  | none => false))) && (tabsOf K).all fun a => (tabsOf K).all fun b => !(a.1 == b.1) || decide (a.2 = b.2)
/-- the tables, as a def's body finds them -/
structure TabsW (K : PySem.W.Frag) (mg : Str → Option Value) (base : Heap) : Prop where
  at_ : ∀ x ∈ lamMakers, isSomeSome (PySem.W.nsIn K mainGlobals x) = true → ∃ c P, PySem.W.tabIn K x = some (c, P) ∧ LamX.TabB base mg c P
  un : ∀ a ∈ tabsOf K, ∀ b ∈ tabsOf K, a.1 = b.1 → a.2 = b.2
/-- the same, at the head's heap -/
structure HeadT (K : PySem.W.Frag) (h : Heap) (ts : List (Addr × Addr)) : Prop where
  em : ∀ p ∈ ts, h.get? p.2 = some { cls := .none, data := .fields #[] }
  no : ∀ p ∈ ts, K.lookup p.2 = none
  hd : ∀ p ∈ ts, PySem.W.CodeHd h p.1 p.2
  al : ∀ x ∈ lamMakers, isSomeSome (PySem.W.nsIn K mainGlobals x) = true → ∃ c P, PySem.W.tabIn K x = some (c, P) ∧ (c, P) ∈ ts
theorem headT_of {p : Program} {loose : List Str} {mean : ExcName → Option Value} {mg mb : Str → Option Value} {h : Heap} {K : PySem.W.Frag} (T : Top p loose mean mg mb h) (X : K.In h) (hb : tabsB p K = true) : ∃ ts, HeadT K h ts := by
  unfold tabsB at hb
  simp only [Bool.and_eq_true] at hb
  have hb1 := List.all_eq_true.mp hb.1
  have key : ∀ x ∈ lamMakers, isSomeSome (PySem.W.nsIn K mainGlobals x) = true → ∃ c P, PySem.W.tabIn K x = some (c, P) ∧ K.lookup P = none ∧ PySem.W.CodeHd h c P ∧ h.get? P = some { cls := .none, data := .fields #[] } := fun x hx hs => by
    have := hb1 x hx
    rw [hs] at this
    simp only [Bool.not_true, Bool.false_or, Bool.and_eq_true] at this
    obtain ⟨q1, q2⟩ := this
    split at q2
    · rename_i c P ht
      have hf : ((recsOf p).find? fun e => e.name == x).isSome = true := by rw [List.find?_isSome]; simpa using q1
      obtain ⟨d, hd⟩ := Option.isSome_iff_exists.mp hf
      obtain ⟨r1, r2⟩ := PySem.W.tab_of T X hd ht
      exact ⟨c, P, ht, by simpa using q2, r1, r2⟩
    · cases q2
  let ts : List (Addr × Addr) := lamMakers.filterMap fun x => if isSomeSome (PySem.W.nsIn K mainGlobals x) = true then PySem.W.tabIn K x else none
  have back : ∀ q ∈ ts, ∃ x ∈ lamMakers, isSomeSome (PySem.W.nsIn K mainGlobals x) = true ∧ PySem.W.tabIn K x = some q := fun q hq => by
    obtain ⟨x, hx, e⟩ := List.mem_filterMap.mp hq
    by_cases hs : isSomeSome (PySem.W.nsIn K mainGlobals x) = true
    · rw [if_pos hs] at e
      exact ⟨x, hx, hs, e⟩
    · rw [if_neg hs] at e
      cases e
  have got : ∀ q ∈ ts, K.lookup q.2 = none ∧ PySem.W.CodeHd h q.1 q.2 ∧ h.get? q.2 = some { cls := .none, data := .fields #[] } := fun q hq => by
    obtain ⟨x, hx, hs, e⟩ := back q hq
    obtain ⟨c, P, e1, r⟩ := key x hx hs
    rw [e] at e1
    cases e1
    exact r
  refine ⟨ts, fun q hq => (got q hq).2.2, fun q hq => (got q hq).1, fun q hq => (got q hq).2.1, fun x hx hs => ?_⟩
  obtain ⟨c, P, e1, _⟩ := key x hx hs
  refine ⟨c, P, e1, List.mem_filterMap.mpr ⟨x, hx, ?_⟩⟩
  rw [if_pos hs]
  exact e1
section
variable {P : Program} {w : World} {K : PySem.W.Frag} {mg mb : Str → Option Value} {k : Nat} {fa a : Addr} {fd : FuncData} {x : Str} {s₁ : Shared} {vs : List Value} {ns : List Int} {ts : List (Addr × Addr)}
/-- what is tracked at the head: the script, where it is none of the written part, and the tables -/
structure HeadH (K : PySem.W.Frag) (h : Heap) (ts : List (Addr × Addr)) (a : Addr) (G H : Hp) : Prop where
  tab : ∀ p ∈ ts, H p.2 = some (.tbl #[])
  g : ∀ b u, G b = some u → b = a ∧ ∃ o xs, u = .frz o (.lst xs)
  gh : Same G H
  only : ∀ b, H b ≠ none → G b ≠ none ∨ b ∈ ts.map (·.2)
  free : G a ≠ none → K.lookup a = none
/-- the call's state -/
theorem head_env {G H : Hp} (kin : K.In s₁.heap) (glob : s₁.heap.Ns mainGlobals mg) (bns : s₁.heap.Ns builtinsNs mb) (blt : ∀ x : Str, x ≠ "__name__" → mb x = bootBuiltins x) (lim : s₁.heap.NoLimit) (gens : s₁.gens = #[])
    (obj : s₁.heap.get? a = some { cls := .type "list", data := .seq vs.toArray }) (T : HeadT K s₁.heap ts) (X : HeadH K s₁.heap ts a G H) (hok : HOk P w H s₁.heap) (bmn : ∃ (bm : Addr) (ob : Obj), mg "__builtins__" = some (.ref bm) ∧ bm ≠ builtinsNs ∧ s₁.heap.get? bm = some ob ∧ ob.cls = .type "module" ∧ ob.dict = some builtinsNs ∧ ob.data = .plain)
    (hu : ∀ a ∈ tabsOf K, ∀ b ∈ tabsOf K, a.1 = b.1 → a.2 = b.2) : K.In (hidT s₁.heap H) ∧ (hidT s₁.heap H).Ns mainGlobals mg ∧ TabsW K mg (hidT s₁.heap H) ∧ Env0 P w K mg (hidT s₁.heap H) callerA [] s₁ H := by
  have emT : ∀ b, b ∈ ts.map (·.2) → s₁.heap.get? b = some { cls := .none, data := .fields #[] } := fun b hb => by
    obtain ⟨p, hp, rfl⟩ := List.mem_map.mp hb
    exact T.em p hp
  -- what is neither a sequence nor an empty table is hidden from no one
  have seen : ∀ {b : Addr} {o : Obj}, s₁.heap.get? b = some o → o.data ≠ .seq vs.toArray → o.data ≠ .fields #[] → (hidT s₁.heap H).get? b = some o := fun {b o} e n1 n2 => by
    refine hidT_get e ?_
    cases q : H b with
    | none => rfl
    | some u =>
      rcases X.only b (by rw [q]; exact fun z => (nomatch z)) with z | z
      · cases q1 : G b with
        | none => exact absurd q1 z
        | some u' =>
          rw [(X.g b u' q1).1, obj] at e
          cases e
          exact absurd rfl n1
      · rw [emT b z] at e
        cases e
        exact absurd rfl n2
  have ns_in : ∀ {b : Addr} {m : Str → Option Value}, s₁.heap.Ns b m → (hidT s₁.heap H).Ns b m :=
    fun {b m} ⟨o, es, ep, e, d, r⟩ => ⟨o, es, ep, seen e (fun z => by rw [d] at z; cases z) (fun z => by rw [d] at z; cases z), d, r⟩
  have kin' : K.In (hidT s₁.heap H) := by
    intro b o e
    refine hidT_get (kin b o e) ?_
    cases q : H b with
    | none => rfl
    | some u =>
      exfalso
      rcases X.only b (by rw [q]; exact fun z => (nomatch z)) with z | z
      · cases q1 : G b with
        | none => exact z q1
        | some u' =>
          have hb := (X.g b u' q1).1
          subst hb
          rw [X.free z] at e
          cases e
      · obtain ⟨p, hp, rfl⟩ := List.mem_map.mp z
        rw [T.no p hp] at e
        cases e
  obtain ⟨mc, l1, l2⟩ := lim
  refine ⟨kin', ns_in glob, ⟨fun x hx hs => ?_, hu⟩, rfl, ⟨kin', ns_in glob, ⟨mb, ns_in bns, blt⟩, mc, ns_in l1, l2⟩, fun b o e => of_hidT e, Nat.le_of_eq (hidT_size _ _), trivial, fun b hb => (nomatch hb), hok, .of_eq gens⟩
  obtain ⟨c, P', e1, hm⟩ := T.al x hx hs
  have hT := T.em _ hm
  refine ⟨c, P', e1, ?_, ?_, fun z => ?_⟩
  · obtain ⟨o, us, file, tf, flags, tg, inF, text, tt, e1, r1, r2, r3, r⟩ := T.hd _ hm
    refine ⟨o, us, file, tf, flags, tg, inF, text, tt, seen e1 (fun z => by rw [r2] at z; cases z) (fun z => ?_), r1, r2, r3, r⟩
    rw [r2] at z
    cases z
    simp at r3
  · obtain ⟨bm, ob, b1, b2, b3, b4, b5, b6⟩ := bmn
    refine ⟨bm, ob, b1, b2, fun q => ?_, fun q => ?_, seen b3 (fun z => by rw [b6] at z; cases z) (fun z => by rw [b6] at z; cases z), b4, b5, b6⟩
    · obtain ⟨o, es, ep, e, hd, _⟩ := glob
      rw [q, e] at b3
      cases b3
      rw [b6] at hd
      cases hd
    · rw [q, hT] at b3
      cases b3
      cases b6
  · obtain ⟨o, es, ep, e, hd, _⟩ := glob
    rw [z, hT] at e
    cases e
    cases hd
theorem head_run {G H : Hp} {sp : FS} (kin : K.In s₁.heap) (glob : s₁.heap.Ns mainGlobals mg) (bns : s₁.heap.Ns builtinsNs mb) (blt : ∀ x : Str, x ≠ "__name__" → mb x = bootBuiltins x) (lim : s₁.heap.NoLimit) (gens : s₁.gens = #[])
    (obj : s₁.heap.get? a = some { cls := .type "list", data := .seq vs.toArray }) (T : HeadT K s₁.heap ts) (X : HeadH K s₁.heap ts a G H) (hok : HOk P w H s₁.heap) (bmn : ∃ (bm : Addr) (ob : Obj), mg "__builtins__" = some (.ref bm) ∧ bm ≠ builtinsNs ∧ s₁.heap.get? bm = some ob ∧ ob.cls = .type "module" ∧ ob.dict = some builtinsNs ∧ ob.data = .plain)
    (hu : ∀ a ∈ tabsOf K, ∀ b ∈ tabsOf K, a.1 = b.1 → a.2 = b.2) (room : Room k callerA) (prom : ∀ base : Heap, K.In base → base.Ns mainGlobals mg → TabsW K mg base → GnOk P w K mg base k fa fd [x] (liftF K none sp)) (bind : ∀ (s : Shared) (u : Value), BindsTo s fd ⟨[u], []⟩ [(x, u)])
    (seq : SqL K G a (ns.map V.int)) (truth : sp [.scr ns] fun z _ => z = .d (.bool true)) :
    codeAny (model P w) callerA (.call (.ref fa) ⟨[.ref a], []⟩) (fun r s' => r = .ok (.ret (.bool true)) ∧ OldK s₁.heap s'.heap ∧ s'.os = s₁.os ∧ AllBare s'.gens) s₁ := by
  obtain ⟨kb, gb, tw, e0⟩ := head_env kin glob bns blt lim gens obj T X hok bmn hu
  have tb : LamX.Tabs (tabsOf K) H := fun p hp => by
    obtain ⟨x', hx', e⟩ := List.mem_filterMap.mp hp
    by_cases hs : isSomeSome (PySem.W.nsIn K mainGlobals x') = true
    · rw [if_pos hs] at e
      obtain ⟨c, P', e1, hm⟩ := T.al x' hx' hs
      rw [tabOf_eq, e1] at e
      cases e
      exact LamX.TabS.nil (X.tab _ hm)
    · rw [if_neg hs] at e
      cases e
  have want : liftF K none sp [V.ref a] H (fun v _ => v = .bl true) := by
    refine ⟨fun _ => none, G, [.scr ns], [], _, ⟨.yes (L := []) (M := []) (.scr seq) .nil, List.nodup_nil, fun _ z => (nomatch z), fun _ _ z => (nomatch z), X.gh, tb, fun _ _ z => (nomatch z), fun b qs z => ?_⟩, truth, fun z v ns' σ' G' H' L' M a' q _ hz => ?_⟩
    · obtain ⟨_, o, xs, z2⟩ := X.g b _ z
      cases z2
    · subst hz
      exact q.r.dq.1.bl_of
  refine codeAny_mono ((prom _ kb gb tw).run callerA [] s₁ H ⟨[.ref a], []⟩ [.ref a] [.ref a] _ room rfl e0 (bind s₁ (.ref a)) (.cons rfl .nil) want) fun r s' h => ?_
  obtain ⟨u, rfl, v, H', os, bare, un, hok', r', q⟩ := gn_end h
  have q : v = .bl true := q
  subst q
  obtain rfl : u = Value.bool true := r'
  have stays : ∀ b o, b ∉ ts.map (·.2) → s₁.heap.get? b = some o → s'.heap.get? b = some o := fun b o nb e => by
    cases q : H b with
    | none => exact un.keep b o e q (fun z => (nomatch z)) (fun z => (nomatch z))
    | some u =>
      rcases X.only b (by rw [q]; exact fun z => (nomatch z)) with z | z
      · cases q1 : G b with
        | none => exact absurd q1 z
        | some u' =>
          obtain ⟨_, ob, xs, rfl⟩ := X.g b u' q1
          have q2 := X.gh b _ q1
          obtain ⟨e1, _⟩ := hok b _ q2
          obtain ⟨e2, _⟩ := hok' b _ (un.frzs b ob _ q2)
          rw [e] at e1
          cases e1
          exact e2
      · exact absurd z nb
  refine ⟨rfl, ⟨fun b o e => ?_, fun b o e => ?_⟩, os, bare⟩
  · by_cases hb : b ∈ ts.map (·.2)
    · obtain ⟨p, hp, rfl⟩ := List.mem_map.mp hb
      obtain ⟨more, z⟩ := un.tbls p.2 #[] (X.tab p hp)
      have z2 := hok' p.2 _ z
      have z3 := T.em p hp
      rw [e] at z3
      cases z3
      rw [Array.empty_append] at z2
      exact .inr (.inl ⟨((T.hd p hp).tab e).isCodeTable, rfl, #[], more, rfl, by rw [Array.empty_append]; exact z2⟩)
    · exact .inl (stays b o hb e)
  · by_cases hb : b ∈ ts.map (·.2)
    · obtain ⟨p, hp, rfl⟩ := List.mem_map.mp hb
      obtain ⟨more, z⟩ := un.tbls p.2 #[] (X.tab p hp)
      exact ⟨_, hok' p.2 _ z⟩
    · exact ⟨o, stays b o hb e⟩
end
/-- the goal that k_head leaves, from the law's promise over trees -/
theorem walk_gn {l : PySem.W.OpenLaw} {n k : Nat} {q : Program} {loose : List Str} {XP : (Str → Option Value) → Heap → Prop} {YP : World → Heap → Prop} {d : DefRec} {K : Params → PySem.W.Frag} {sp : FS} {x : Str}
    (hn : l.most = some n) (hn2 : n ≤ sizeLine) (hdf : d.params.defaults = []) (room : Room k callerA) (hY : ∀ (w : World) (h : Heap), YP w h → (K w.params).In h) (hT : ∀ w : World, tabsB q (K w.params) = true)
    (F : ∀ (w : World) (mg : Str → Option Value) (fa : Addr) (h : Heap), (K w.params).In h → h.Ns mainGlobals mg → mg d.name = some (.ref fa) →
      ∃ fd : FuncData, (∀ (s : Shared) (u : Value), BindsTo s fd ⟨[u], []⟩ [(x, u)]) ∧ ∀ base : Heap, (K w.params).In base → base.Ns mainGlobals mg → TabsW (K w.params) mg base → GnOk l.prog w (K w.params) mg base k fa fd [x] (liftF (K w.params) none sp))
    (truth : ∀ ns : List Int, ns.length ≤ n → (∀ z ∈ ns, Builtin.Int.intBits z ≤ 1048576) → sp [.scr ns] fun z _ => z = .d (.bool true)) :
    PySem.W.WalkO q loose XP YP l.row.toRowW d [] (fun f vs => PySem.call f vs) := by
  refine Att.attach_callB hn hdf fun w s₀ s₁ mg mb fa o pm cd doc a vs ns G Y ho hd hcd hmg hobj hints hlen hbits hg => ?_
  have kin := hY w _ Y
  obtain ⟨fd, hb, hF⟩ := F w mg fa _ kin G.T.g hmg
  obtain ⟨ts, T⟩ := headT_of G.T kin (hT w)
  have hu : ∀ a ∈ tabsOf (K w.params), ∀ b ∈ tabsOf (K w.params), a.1 = b.1 → a.2 = b.2 := fun a ha b hb e => by
    have := hT w
    unfold tabsB at this
    simp only [Bool.and_eq_true] at this
    have := List.all_eq_true.mp (List.all_eq_true.mp this.2 a ha) b hb
    simpa [e] using this
  have rv := vals_ints hints
  have small : ns.length ≤ sizeLine := Nat.le_trans hlen hn2
  have lv := hints.length
  have aT : a ∉ ts.map (·.2) := fun z => by
    obtain ⟨p, hp, e⟩ := List.mem_map.mp z
    have := T.em p hp
    rw [e, hobj] at this
    cases this
  have emT : ∀ b, b ∈ ts.map (·.2) → s₁.heap.get? b = some { cls := .none, data := .fields #[] } := fun b hb => by
    obtain ⟨p, hp, rfl⟩ := List.mem_map.mp hb
    exact T.em p hp
  have memT : ∀ p ∈ ts, p.2 ∈ ts.map (·.2) := fun p hp => List.mem_map.mpr ⟨p, hp, rfl⟩
  cases hk : (K w.params).lookup a with
  | some ob =>
    have e := kin a ob hk
    rw [hobj] at e
    cases e
    refine head_run (G := fun _ => none) (H := fun b => if b ∈ ts.map (·.2) then some (.tbl #[]) else none) kin G.T.g G.T.b G.T.builtins G.T.nolimit hg hobj T ⟨fun p hp => if_pos (memT p hp), fun b u z => (nomatch z), fun b u z => (nomatch z), fun b z => ?_, fun z => absurd rfl z⟩ (fun b u z => ?_) G.T.bmain hu room hF hb
      (.inr ⟨_, vs.toArray, _, hk, rfl, rfl, rfl, by rw [List.size_toArray, lv]; exact small, by simpa using rv⟩) (truth ns hlen hbits)
    · by_cases h : b ∈ ts.map (·.2)
      · exact .inr h
      · exact absurd (if_neg h) z
    · by_cases h : b ∈ ts.map (·.2)
      · have z : (if b ∈ ts.map (·.2) then some (HO.tbl #[]) else none) = some u := z
        rw [if_pos h] at z
        cases z
        exact emT b h
      · have z : (if b ∈ ts.map (·.2) then some (HO.tbl #[]) else none) = some u := z
        rw [if_neg h] at z
        cases z
  | none =>
    let S : HO := .frz { cls := .type "list", data := .seq vs.toArray } (.lst (ns.map V.int))
    have gat : ∀ b u, (if b = a then some S else none) = some u → b = a ∧ u = S := fun b u z => by
      by_cases h : b = a
      · rw [if_pos h] at z
        exact ⟨h, (Option.some.inj z).symm⟩
      · rw [if_neg h] at z
        cases z
    refine head_run (G := fun b => if b = a then some S else none) (H := fun b => if b = a then some S else if b ∈ ts.map (·.2) then some (.tbl #[]) else none) kin G.T.g G.T.b G.T.builtins G.T.nolimit hg hobj T
      ⟨fun p hp => ?_, fun b u z => ?_, fun b u z => ?_, fun b z => ?_, fun _ => hk⟩ (fun b u z => ?_) G.T.bmain hu room hF hb (.inl (.inr ⟨{ cls := .type "list", data := .seq vs.toArray }, if_pos rfl⟩)) (truth ns hlen hbits)
    · have n : p.2 ≠ a := fun z => aT (by rw [← z]; exact memT p hp)
      show (if p.2 = a then some S else if p.2 ∈ ts.map (·.2) then some (HO.tbl #[]) else none) = _
      rw [if_neg n, if_pos (memT p hp)]
    · obtain ⟨h1, h2⟩ := gat b u z
      exact ⟨h1, _, _, h2⟩
    · obtain ⟨h1, h2⟩ := gat b u z
      show (if b = a then some S else if b ∈ ts.map (·.2) then some (HO.tbl #[]) else none) = _
      rw [if_pos h1, h2]
    · by_cases h : b = a
      · exact .inl (by show (if b = a then some S else none) ≠ none; rw [if_pos h]; exact fun z => (nomatch z))
      · by_cases h2 : b ∈ ts.map (·.2)
        · exact .inr h2
        · refine absurd ?_ z
          show (if b = a then some S else if b ∈ ts.map (·.2) then some (HO.tbl #[]) else none) = none
          rw [if_neg h, if_neg h2]
    · have z : (if b = a then some S else if b ∈ ts.map (·.2) then some (HO.tbl #[]) else none) = some u := z
      by_cases h : b = a
      · rw [if_pos h] at z
        cases z
        subst h
        exact ⟨hobj, by rw [List.length_map]; exact small, vs, _, rv, hobj⟩
      · rw [if_neg h] at z
        by_cases h2 : b ∈ ts.map (·.2)
        · rw [if_pos h2] at z
          cases z
          exact emT b h2
        · rw [if_neg h2] at z
          cases z
end Tr
set_option Elab.async false
set_option linter.all false
set_option maxRecDepth 100000
set_option maxHeartbeats 4000000
namespace Tr
open PySem PySem.Spec PyProof.Rows L2
/-- a value that has come, kept folded until it is known -/
def onV (o : Option Tv) (K : Tv → Prop) : Prop := match o with
  | some (.d x) => K (.d x)
  | some (.scr ns) => K (.scr ns)
  | some (.fn k c) => False
  | _ => False
def onW (o : Option Tv) (i : Nat) (ρ : Env') (Q : Tv → Env' → Prop) : Prop := match o with
  | some (.d x) => Q (.d x) ρ
  | some (.scr ns) => Q (.scr ns) ρ
  | some (.own xs) => ∃ d, (Tv.own xs).frz = some d ∧ Q (.d d) (ρ.set i (some (.d d)))
  | some (.fn k c) => Q (.fn k c) ρ
  | some (.map _) => False
  | none => False
theorem onV_d {x : PyData} {K : Tv → Prop} : onV (some (.d x)) K = K (.d x) := rfl
theorem onV_scr {x : List Int} {K : Tv → Prop} : onV (some (.scr x)) K = K (.scr x) := rfl
theorem onW_d {x : PyData} {i : Nat} {ρ : Env'} {Q : Tv → Env' → Prop} : onW (some (.d x)) i ρ Q = Q (.d x) ρ := rfl
theorem onW_scr {x : List Int} {i : Nat} {ρ : Env'} {Q : Tv → Env' → Prop} : onW (some (.scr x)) i ρ Q = Q (.scr x) ρ := rfl
theorem onW_own {xs : List Tv} {i : Nat} {ρ : Env'} {Q : Tv → Env' → Prop} : onW (some (.own xs)) i ρ Q = ∃ d, (Tv.own xs).frz = some d ∧ Q (.d d) (ρ.set i (some (.d d))) := rfl
theorem onW_fn {k : LamK} {c : List (Str × PyData)} {i : Nat} {ρ : Env'} {Q : Tv → Env' → Prop} : onW (some (.fn k c)) i ρ Q = Q (.fn k c) ρ := rfl
theorem v_var {Γ : Gam} {i : Nat} {ρ : Env'} {Q : Tv → Env' → Prop} : simV Γ (.var i) ρ Q = onW (ρ[i]?).join i ρ Q := by
  unfold simV onW
  simp only [sv] <;> (generalize (ρ[i]?).join = o; match o with
    | none => rfl
    | some (.d _) => rfl
    | some (.own _) => rfl
    | some (.scr _) => rfl
    | some (.fn _ _) => rfl
    | some (.map _) => rfl)
theorem v_any {Γ : Gam} {s : SE} {ρ : Env'} {Q : Tv → Env' → Prop} (h : s.var? = none) : simV Γ s ρ Q = onV (sv Γ ρ s) fun x => Q x ρ := by
  unfold simV onV
  cases e : sv Γ ρ s with
  | none => rfl
  | some x =>
    cases x with
    | d x => rfl
    | scr ns => rfl
    | own xs => cases s <;> first | rfl | cases h
    | fn k c => cases s <;> first | rfl | cases h
    | map m => rfl
theorem v_int {Γ : Gam} {n : Int} {ρ : Env'} {Q : Tv → Env' → Prop} : simV Γ (.int n) ρ Q = Q (.d (.int n)) ρ := rfl
theorem v_str {Γ : Gam} {n : Str} {ρ : Env'} {Q : Tv → Env' → Prop} : simV Γ (.str n) ρ Q = Q (.d (.str n)) ρ := rfl
theorem v_bl {Γ : Gam} {n : Bool} {ρ : Env'} {Q : Tv → Env' → Prop} : simV Γ (.bl n) ρ Q = Q (.d (.bool n)) ρ := rfl
theorem v_non {Γ : Gam} {ρ : Env'} {Q : Tv → Env' → Prop} : simV Γ .non ρ Q = Q (.d .none) ρ := rfl
theorem v_glob {Γ : Gam} {x : Str} {ρ : Env'} {Q : Tv → Env' → Prop} : simV Γ (.glob x) ρ Q = onV (sv Γ ρ (.glob x)) fun x => Q x ρ := v_any rfl
theorem v_add {Γ : Gam} {a b : SE} {ρ : Env'} {Q : Tv → Env' → Prop} : simV Γ (.add a b) ρ Q = onV (sv Γ ρ (.add a b)) fun x => Q x ρ := v_any rfl
theorem v_sub {Γ : Gam} {a b : SE} {ρ : Env'} {Q : Tv → Env' → Prop} : simV Γ (.sub a b) ρ Q = onV (sv Γ ρ (.sub a b)) fun x => Q x ρ := v_any rfl
theorem v_neg {Γ : Gam} {a : SE} {ρ : Env'} {Q : Tv → Env' → Prop} : simV Γ (.neg a) ρ Q = onV (sv Γ ρ (.neg a)) fun x => Q x ρ := v_any rfl
theorem v_idx {Γ : Gam} {a b : SE} {ρ : Env'} {Q : Tv → Env' → Prop} : simV Γ (.idx a b) ρ Q = onV (sv Γ ρ (.idx a b)) fun x => Q x ρ := v_any rfl
theorem v_len {Γ : Gam} {a : SE} {ρ : Env'} {Q : Tv → Env' → Prop} : simV Γ (.len a) ρ Q = onV (sv Γ ρ (.len a)) fun x => Q x ρ := v_any rfl
def wForL (tg : Tg) (items : List PyData) (wb : WS) (er : List Nat) (D : DE) (ρ1 : Env') : Prop := ∃ I : Nat → Env' → Prop, I 0 ρ1 ∧
  (∀ k x ρ2, items[k]? = some x → I k ρ2 → wTg tg x ρ2 fun ρ3 => wb { nx := fun ρ4 => I (k + 1) (wipeR ρ4 er), ct := fun ρ4 => I (k + 1) (wipeR ρ4 er), bk := fun ρ4 => D.nx (wipeR ρ4 er), rt := D.rt } ρ3) ∧
  ∀ ρ2, I items.length ρ2 → D.nx ρ2
def wWhileL (wc : WE) (wb : WS) (er : List Nat) (D : DE) (ρ : Env') : Prop := ∃ (I : Env' → Prop) (μ : Env' → Nat), I ρ ∧ ∀ ρ1, I ρ1 → wc ρ1 fun x ρ2 => ∃ k, x = .d (.bool k) ∧
  (k = true → wb { nx := fun ρ4 => I (wipeR ρ4 er) ∧ μ (wipeR ρ4 er) < μ ρ1, ct := fun ρ4 => I (wipeR ρ4 er) ∧ μ (wipeR ρ4 er) < μ ρ1, bk := fun ρ4 => D.nx (wipeR ρ4 er), rt := D.rt } ρ2) ∧ (k = false → D.nx ρ2)
def wLcL (tg : Tg) (items : List PyData) (wc : Env' → (Bool → Env' → Prop) → Prop) (we : WE) (vs : List Nat) (ρ1 : Env') (Q : Tv → Env' → Prop) : Prop := ∃ I : Nat → List Tv → Env' → Prop, I 0 [] (wipeR ρ1 vs) ∧
  (∀ k x acc ρ2, items[k]? = some x → I k acc ρ2 → wTg tg x ρ2 fun ρ3 => wc ρ3 fun b ρ4 =>
    (b = true → we ρ4 fun y ρ5 => acc.length < sizeLine ∧ I (k + 1) (acc ++ [y]) (wipeR ρ5 vs)) ∧ (b = false → I (k + 1) acc (wipeR ρ4 vs))) ∧
  ∀ acc ρ2, I items.length acc ρ2 → Q (.own acc) (restR ρ1 ρ2 vs)
/-- a test and what follows -/
def wIfL (k : Bool) (A B : Prop) : Prop := (k = true → A) ∧ (k = false → B)
section
variable {Γ : Gam} {Φ : Phi} {D : DE} {ρ : Env'} {Q : Tv → Env' → Prop}
theorem r_nil : wSL Γ Φ .nil D ρ = D.nx ρ := rfl
theorem r_cons {s : S} {ss : SL} : wSL Γ Φ (.cons s ss) D ρ = wS Γ Φ s { D with nx := fun ρ1 => wSL Γ Φ ss D ρ1 } ρ := rfl
theorem r_set {i : Nat} {e : E} : wS Γ Φ (.set i e) D ρ = wE Γ Φ e ρ fun x ρ1 => i < ρ1.length ∧ D.nx (ρ1.set i (some x)) := rfl
theorem r_unp {tg : Tg} {e : E} : wS Γ Φ (.unp tg e) D ρ = wE Γ Φ e ρ fun x ρ1 => ∃ d, x.frz = some d ∧ wTg tg d ρ1 D.nx := rfl
theorem r_par {is : List Nat} {es : EL} : wS Γ Φ (.par is es) D ρ = wEs Γ Φ es ρ fun xs ρ1 => xs.length = is.length ∧ is.Nodup ∧ (∀ i ∈ is, i < ρ1.length) ∧ D.nx ((is.zip xs).foldl (fun r p => r.set p.1 (some p.2)) ρ1) := rfl
theorem r_ix1 {i : Nat} {k : SE} {e : E} : wS Γ Φ (.ix1 i k e) D ρ = wE Γ Φ e ρ fun y ρ1 => ∃ ts n j, ρ1[i]? = some (some (.own ts)) ∧ sv Γ ρ1 k = some (.d (.int n)) ∧ ixN ts.length n = some j ∧ D.nx (ρ1.set i (some (.own (ts.set j y)))) := rfl
theorem r_dput {i : Nat} {b e : E} : wS Γ Φ (.dput i b e) D ρ = wE Γ Φ e ρ fun y ρ1 => ∃ v, y = .d v ∧ (∃ m, ρ1[i]? = some (some (.map m))) ∧ wE Γ Φ b ρ1 fun z ρ2 => ∃ m d m', z = .d d ∧ ρ2[i]? = some (some (.map m)) ∧ m.size < sizeLine ∧ m.put d v = some m' ∧ D.nx (ρ2.set i (some (.map m'))) := rfl
theorem r_ixe {i : Nat} {a e : E} : wS Γ Φ (.ixe i a e) D ρ = wE Γ Φ e ρ fun y ρ1 => ∃ d, y = .d d ∧ (∃ ts, ρ1[i]? = some (some (.own ts))) ∧ wE Γ Φ a ρ1 fun z ρ2 => ∃ n ts j, z = .d (.int n) ∧ ρ2[i]? = some (some (.own ts)) ∧ ixN ts.length n = some j ∧ D.nx (ρ2.set i (some (.own (ts.set j (.d d))))) := rfl
theorem r_ixp {i : Nat} {k1 k2 : SE} {es : EL} : wS Γ Φ (.ixp i k1 k2 es) D ρ = wEs Γ Φ es ρ fun xs ρ1 => ∃ y1 y2 ts n1 j1 n2 j2, xs = [.d y1, .d y2] ∧ ρ1[i]? = some (some (.own ts)) ∧ sv Γ ρ1 k1 = some (.d (.int n1)) ∧ ixN ts.length n1 = some j1 ∧
      sv Γ (ρ1.set i (some (.own (ts.set j1 (.d y1))))) k2 = some (.d (.int n2)) ∧ ixN ts.length n2 = some j2 ∧ D.nx (ρ1.set i (some (.own ((ts.set j1 (.d y1)).set j2 (.d y2))))) := rfl
theorem r_ix2 {i : Nat} {k1 k : SE} {e : E} : wS Γ Φ (.ix2 i k1 k e) D ρ = wE Γ Φ e ρ fun y ρ1 => ∃ ts n1 j1 us n j, ρ1[i]? = some (some (.own ts)) ∧ sv Γ ρ1 k1 = some (.d (.int n1)) ∧ ixN ts.length n1 = some j1 ∧ ts[j1]? = some (.own us) ∧
      sv Γ ρ1 k = some (.d (.int n)) ∧ ixN us.length n = some j ∧ D.nx (ρ1.set i (some (.own (ts.set j1 (.own (us.set j y)))))) := rfl
theorem r_app {i : Nat} {e : E} : wS Γ Φ (.app i e) D ρ = ((∃ ts, ρ[i]? = some (some (.own ts))) ∧ wE Γ Φ e ρ fun y ρ1 => ∃ ts, ρ1[i]? = some (some (.own ts)) ∧ ts.length < sizeLine ∧ D.nx (ρ1.set i (some (.own (ts ++ [y]))))) := rfl
theorem r_ext {i : Nat} {e : E} : wS Γ Φ (.ext i e) D ρ = ((∃ ts, ρ[i]? = some (some (.own ts))) ∧ wE Γ Φ e ρ fun y ρ1 => ∃ ts xs, ρ1[i]? = some (some (.own ts)) ∧ y.frz = some (.list xs) ∧ ts.length + xs.length ≤ sizeLine ∧ D.nx (ρ1.set i (some (.own (ts ++ xs.map .d))))) := rfl
theorem r_exT {i : Nat} {e : E} : wS Γ Φ (.exT i e) D ρ = ((∃ ts, ρ[i]? = some (some (.own ts))) ∧ wE Γ Φ e ρ fun y ρ1 => ∃ ts xs, ρ1[i]? = some (some (.own ts)) ∧ y = .d (.tuple xs) ∧ ts.length + xs.length ≤ sizeLine ∧ D.nx (ρ1.set i (some (.own (ts ++ xs.map .d))))) := rfl
theorem r_expr {e : E} : wS Γ Φ (.expr e) D ρ = wE Γ Φ e ρ fun _ ρ1 => D.nx ρ1 := rfl
theorem r_ret {e : E} : wS Γ Φ (.ret e) D ρ = wE Γ Φ e ρ fun x ρ1 => D.rt x ρ1 := rfl
theorem r_retv {i : Nat} : wS Γ Φ (.retv i) D ρ = ∃ x, ρ[i]? = some (some x) ∧ D.rt x (ρ.set i none) := rfl
theorem r_retN : wS Γ Φ .retN D ρ = D.rt (.d .none) ρ := rfl
theorem r_if {c : E} {a b : SL} : wS Γ Φ (.ite c a b) D ρ = wE Γ Φ c ρ fun x ρ1 => ∃ k, x = .d (.bool k) ∧ wIfL k (wSL Γ Φ a D ρ1) (wSL Γ Φ b D ρ1) := rfl
theorem r_for {tg : Tg} {it : It} {body : SL} {er : List Nat} : wS Γ Φ (.for_ tg it body er) D ρ = wI Γ Φ it ρ fun items ρ1 => wForL tg items (wSL Γ Φ body) er D ρ1 := rfl
theorem r_while {c : E} {body : SL} {er : List Nat} : wS Γ Φ (.while_ c body er) D ρ = wWhileL (wE Γ Φ c) (wSL Γ Φ body) er D ρ := rfl
theorem r_pass : wS Γ Φ .pass D ρ = D.nx ρ := rfl
theorem r_brk : wS Γ Φ .brk D ρ = D.bk ρ := rfl
theorem r_cont : wS Γ Φ .cont D ρ = D.ct ρ := rfl
theorem q_sim {s : SE} : wE Γ Φ (.sim s) ρ Q = simV Γ s ρ Q := rfl
theorem q_bin {o : BO} {a b : E} : wE Γ Φ (.bin o a b) ρ Q = wE Γ Φ a ρ fun x ρ1 => wE Γ Φ b ρ1 fun y ρ2 => opB o x y fun z => Q z ρ2 := rfl
theorem q_neg {a : E} : wE Γ Φ (.neg a) ρ Q = wE Γ Φ a ρ fun x ρ1 => ∃ i, x = .d (.int i) ∧ Q (.d (.int (-i))) ρ1 := rfl
theorem q_cmp {o : CO} {a b : E} : wE Γ Φ (.cmp o a b) ρ Q = (match a.var? with
    | some i => (∃ x, ρ[i]? = some (some x)) ∧ (match b.sim? with
      | some s => simR Γ s
      | none => wE Γ Φ b) ρ fun y ρ2 => ∃ x, ρ2[i]? = some (some x) ∧ cmpO o x y fun k => Q (.d (.bool k)) ρ2
    | none => wE Γ Φ a ρ fun x ρ1 => (match b.sim? with
      | some s => simR Γ s
      | none => wE Γ Φ b) ρ1 fun y ρ2 => cmpO o x y fun k => Q (.d (.bool k)) ρ2) := rfl
theorem q_isN {a : E} : wE Γ Φ (.isN a) ρ Q = (match a.sim? with
      | some s => simR Γ s
      | none => wE Γ Φ a) ρ fun x ρ1 => frzT x fun d => Q (.d (.bool (isNonD d))) ρ1 := rfl
theorem q_notN {a : E} : wE Γ Φ (.notN a) ρ Q = (match a.sim? with
      | some s => simR Γ s
      | none => wE Γ Φ a) ρ fun x ρ1 => frzT x fun d => Q (.d (.bool (!isNonD d))) ρ1 := rfl
theorem q_chain {o o' : CO} {a b c : E} : wE Γ Φ (.chain o o' a b c) ρ Q = wE Γ Φ a ρ fun x ρ1 => wE Γ Φ b ρ1 fun y ρ2 => cmpO o x y fun k => wIfL k (wE Γ Φ c ρ2 fun z ρ3 => cmpO o' y z fun l => Q (.d (.bool l)) ρ3) (Q (.d (.bool false)) ρ2) := rfl
theorem q_and {es : EL} : wE Γ Φ (.and_ es) ρ Q = wAnd Γ Φ es ρ Q := rfl
theorem q_or {es : EL} : wE Γ Φ (.or_ es) ρ Q = wOr Γ Φ es ρ Q := rfl
theorem q_and1 {e : E} : wAnd Γ Φ (.cons e .nil) ρ Q = wE Γ Φ e ρ fun x ρ1 => ∃ b, x = .d (.bool b) ∧ Q (.d (.bool b)) ρ1 := rfl
theorem q_and2 {e e2 : E} {es : EL} : wAnd Γ Φ (.cons e (.cons e2 es)) ρ Q = wE Γ Φ e ρ fun x ρ1 => ∃ b, x = .d (.bool b) ∧ wIfL b (wAnd Γ Φ (.cons e2 es) ρ1 Q) (Q (.d (.bool false)) ρ1) := rfl
theorem q_or1 {e : E} : wOr Γ Φ (.cons e .nil) ρ Q = wE Γ Φ e ρ fun x ρ1 => ∃ b, x = .d (.bool b) ∧ Q (.d (.bool b)) ρ1 := rfl
theorem q_or2 {e e2 : E} {es : EL} : wOr Γ Φ (.cons e (.cons e2 es)) ρ Q = wE Γ Φ e ρ fun x ρ1 => ∃ b, x = .d (.bool b) ∧ wIfL b (Q (.d (.bool true)) ρ1) (wOr Γ Φ (.cons e2 es) ρ1 Q) := rfl
theorem q_not {a : E} : wE Γ Φ (.not_ a) ρ Q = wE Γ Φ a ρ fun x ρ1 => ∃ b, x = .d (.bool b) ∧ Q (.d (.bool (!b))) ρ1 := rfl
theorem q_ite {c a b : E} : wE Γ Φ (.ite c a b) ρ Q = wE Γ Φ c ρ fun x ρ1 => ∃ k, x = .d (.bool k) ∧ wIfL k (wE Γ Φ a ρ1 Q) (wE Γ Φ b ρ1 Q) := rfl
theorem q_tup {es : EL} : wE Γ Φ (.tup es) ρ Q = wEs Γ Φ es ρ fun xs ρ1 => ∃ ds, frzs xs = some ds ∧ Q (.d (.tuple ds)) ρ1 := rfl
theorem q_lst {es : EL} : wE Γ Φ (.lst es) ρ Q = wEs Γ Φ es ρ fun xs ρ1 => Q (.own xs) ρ1 := rfl
theorem q_idx {a b : E} : wE Γ Φ (.idx a b) ρ Q = wE Γ Φ a ρ fun x ρ1 => wE Γ Φ b ρ1 fun y ρ2 => ∃ k z, y = .d (.int k) ∧ x.item k = some (.d z) ∧ Q (.d z) ρ2 := rfl
theorem q_slice {a : E} {lo hi : OE} : wE Γ Φ (.slice a lo hi) ρ Q = wE Γ Φ a ρ fun x ρ1 => wO Γ Φ lo ρ1 fun l ρ2 => wO Γ Φ hi ρ2 fun h ρ3 => sliceO x l h fun z => Q z ρ3 := rfl
theorem q_rev {a : E} : wE Γ Φ (.rev a) ρ Q = wE Γ Φ a ρ fun x ρ1 => revO x fun z => Q z ρ1 := rfl
theorem q_blt1 {b : Bn} {e : E} : wE Γ Φ (.blt1 b e) ρ Q = wE Γ Φ e ρ fun x ρ1 => bltO b [x] fun z => Q z ρ1 := rfl
theorem q_bltv {b : Bn} {e : E} : wE Γ Φ (.bltv b e) ρ Q = (match e.sim? with
      | some s => simR Γ s
      | none => wE Γ Φ e) ρ fun x ρ1 => bltO b [x] fun z => Q z ρ1 := rfl
theorem q_blt2 {b : Bn} {e e2 : E} : wE Γ Φ (.blt2 b e e2) ρ Q = wE Γ Φ e ρ fun x ρ1 => wE Γ Φ e2 ρ1 fun y ρ2 => bltO b [x, y] fun z => Q z ρ2 := rfl
theorem q_sortset {a : E} : wE Γ Φ (.sortset a) ρ Q = (match a.sim? with
      | some s => simR Γ s
      | none => wE Γ Φ a) ρ fun x ρ1 => ∃ d xs ns, x.frz = some d ∧ PyData.itemsOf d = some xs ∧ intsOf xs = some ns ∧ ns.length < 64 ∧ ∀ ms, isSortSet ns ms → Q (.own (ms.map fun n => .d (.int n))) ρ1 := rfl
theorem q_lrng {t : Bool} {a : OE} {b : E} : wE Γ Φ (.lrng t a b) ρ Q = wO Γ Φ a ρ fun lo ρ1 => wE Γ Φ b ρ1 fun y ρ2 => ∃ j, y = .d (.int j) ∧ -(2 ^ 62) ≤ lo.getD 0 ∧ lo.getD 0 < 2 ^ 62 ∧ -(2 ^ 62) ≤ j ∧ j < 2 ^ 62 ∧ (j - lo.getD 0).toNat ≤ 2 ^ 24 ∧
      Q (if t then .d (.tuple ((List.range (j - lo.getD 0).toNat).map fun (k : Nat) => .int (lo.getD 0 + k))) else .own ((List.range (j - lo.getD 0).toNat).map fun (k : Nat) => .d (.int (lo.getD 0 + k)))) ρ2 := rfl
theorem q_lc {elt : E} {tg : Tg} {it : It} {c : OE} {vs : List Nat} : wE Γ Φ (.lc elt tg it c vs) ρ Q = wI Γ Φ it ρ fun items ρ1 => wLcL tg items (wC Γ Φ c) (wE Γ Φ elt) vs ρ1 Q := rfl
def wLcOL (tg : Tg) (i : Nat) (wc : Env' → (Bool → Env' → Prop) → Prop) (we : WE) (vs : List Nat) (ρ : Env') (Q : Tv → Env' → Prop) : Prop := ∃ ds : List PyData, ρ[i]? = some (some (.own (ds.map .d))) ∧ ∃ I : Nat → List Tv → Env' → Prop, I 0 [] (wipeR ρ vs) ∧
      (∀ k acc ρ2, I k acc ρ2 → ρ2[i]? = some (some (.own (ds.map .d)))) ∧
      (∀ k x acc ρ2, ds[k]? = some x → I k acc ρ2 → wTg tg x ρ2 fun ρ3 => wc ρ3 fun b ρ4 =>
        (b = true → we ρ4 fun y ρ5 => acc.length < sizeLine ∧ I (k + 1) (acc ++ [y]) (wipeR ρ5 vs)) ∧ (b = false → I (k + 1) acc (wipeR ρ4 vs))) ∧
      ∀ acc ρ2, I ds.length acc ρ2 → Q (.own acc) (restR ρ ρ2 vs)
theorem q_lcO {elt : E} {tg : Tg} {i : Nat} {c : OE} {vs : List Nat} : wE Γ Φ (.lcO elt tg i c vs) ρ Q = wLcOL tg i (wC Γ Φ c) (wE Γ Φ elt) vs ρ Q := rfl
theorem o_mulT {xs : List PyData} {k : Int} {R : Tv → Prop} : opB .mul (.d (.tuple xs)) (.d (.int k)) R = (xs ≠ [] ∧ 0 ≤ k ∧ k ≤ 1000 ∧ xs.length ≤ 1000 ∧ R (.d (.tuple (List.replicate k.toNat xs).flatten))) := rfl
theorem q_isi {a : E} {t : Str} : wE Γ Φ (.isi a t) ρ Q = (match a.sim? with | some s => simR Γ s | none => wE Γ Φ a) ρ fun x ρ1 => ∃ d : PyData, x = Tv.d d ∧ Q (.d (.bool (isiD d t))) ρ1 := rfl
theorem q_fza {a : E} : wE Γ Φ (.fza a) ρ Q = wE Γ Φ a ρ fun x ρ1 => ∃ d, x.frz = some d ∧ Q (.d d) ρ1 := rfl
theorem q_fzl {a : E} : wE Γ Φ (.fzl a) ρ Q = wE Γ Φ a ρ fun x ρ1 => ∃ (xs : List Tv) (ds : List PyData), x = .own xs ∧ frzs xs = some ds ∧ Q (.own (ds.map .d)) ρ1 := rfl
theorem q_dct {l : List (Str × Int)} : wE Γ Φ (.dct l) ρ Q = Q (.d (.dict (l.map fun p => (.str p.1, .int p.2)))) ρ := rfl
theorem q_dmk {a : E} : wE Γ Φ (.dmk a) ρ Q = wE Γ Φ a ρ fun x ρ1 => ∃ xs kvs, x.frz = some (.list xs) ∧ tprs xs = some kvs ∧ (kvs.map (·.1)).Nodup ∧ kvs.length ≤ 1000 ∧ Q (.map (.t kvs)) ρ1 := rfl
theorem q_dgt {i : Nat} {b : E} : wE Γ Φ (.dgt i b) ρ Q = ((∃ kvs, ρ[i]? = some (some (.map (.t kvs)))) ∧ wE Γ Φ b ρ fun y ρ1 => ∃ kvs d ks v, ρ1[i]? = some (some (.map (.t kvs))) ∧ y = .d d ∧ tkOf d = some ks ∧ lookK kvs ks = some v ∧ Q (.d v) ρ1) := rfl
theorem q_dnew : wE Γ Φ .dnew ρ Q = Q (.map (.k [])) ρ := rfl
theorem q_dget {i : Nat} {b : E} : wE Γ Φ (.dget i b) ρ Q = ((∃ m, ρ[i]? = some (some (.map m))) ∧ wE Γ Φ b ρ fun y ρ1 => ∃ m d v, ρ1[i]? = some (some (.map m)) ∧ y = .d d ∧ m.get d = some (some v) ∧ Q (.d v) ρ1) := rfl
theorem q_dgd {i : Nat} {b c : E} : wE Γ Φ (.dgd i b c) ρ Q = ((∃ kvs, ρ[i]? = some (some (.map (.k kvs)))) ∧ wE Γ Φ b ρ fun y ρ1 => wE Γ Φ c ρ1 fun z ρ2 => ∃ m d e o, ρ2[i]? = some (some (.map m)) ∧ y = .d d ∧ z = .d e ∧ m.get d = some o ∧ Q (.d (o.getD e)) ρ2) := rfl
theorem q_din {i : Nat} {b : E} : wE Γ Φ (.din b i) ρ Q = wE Γ Φ b ρ fun y ρ1 => ∃ m d o, ρ1[i]? = some (some (.map m)) ∧ y = .d d ∧ m.get d = some o ∧ Q (.d (.bool o.isSome)) ρ1 := rfl
theorem dm_get_k {kvs : List (L2.Key × PyData)} {i : Int} : (Dm.k kvs).get (.int i) = some (lookK kvs (.inl i)) := rfl
theorem dm_put_k {kvs : List (L2.Key × PyData)} {i : Int} {v : PyData} : (Dm.k kvs).put (.int i) v = some (.k (putD kvs (.inl i) v)) := rfl
theorem dm_size_k {kvs : List (L2.Key × PyData)} : (Dm.k kvs).size = kvs.length := rfl
theorem q_index {a b : E} : wE Γ Φ (.index a b) ρ Q = wE Γ Φ a ρ fun x ρ1 => ∃ ns : List Int, x = .d (.tuple (ns.map .int)) ∧ wE Γ Φ b ρ1 fun y ρ2 => ∃ k : Int, y = .d (.int k) ∧ k ∈ ns ∧ Q (.d (.int (ns.idxOf k : Nat))) ρ2 := rfl
theorem q_maxd {a b : E} : wE Γ Φ (.maxd a b) ρ Q = (wE Γ Φ a ρ fun x ρ1 => wE Γ Φ b ρ1 fun y ρ2 => ∃ xs ns n, x.frz = some (.list xs) ∧ intsOf xs = some ns ∧ y = .d (.int n) ∧ Q (.d (.int (maxDf n ns))) ρ2) := rfl
theorem q_idxL {i : Nat} {b : E} : wE Γ Φ (.idxL i b) ρ Q = ((∃ ts, ρ[i]? = some (some (.own ts))) ∧ wE Γ Φ b ρ fun y ρ1 => ∃ ts, ∃ ns : List Int, ∃ k : Int, ρ1[i]? = some (some (.own ts)) ∧ (Tv.own ts).frz = some (.list (ns.map .int)) ∧ y = .d (.int k) ∧ k ∈ ns ∧ Q (.d (.int (ns.idxOf k : Nat))) ρ1) := rfl
theorem q_idxD {i : Nat} {b : E} : wE Γ Φ (.idxD i b) ρ Q = ((∃ ts, ρ[i]? = some (some (.own ts))) ∧ wE Γ Φ b ρ fun y ρ1 => ∃ ts, ∃ ds : List PyData, ∃ d : PyData, ∃ j : Nat, ∃ z : PyData, ρ1[i]? = some (some (.own ts)) ∧ (Tv.own ts).frz = some (.list ds) ∧ y = .d d ∧ shal 30 (.list ds) = true ∧ shal 30 d = true ∧ ds[j]? = some z ∧ PyData.eqv z d = true ∧ (∀ (m : Nat) (z' : PyData), m < j → ds[m]? = some z' → PyData.eqv z' d = false) ∧ Q (.d (.int (j : Nat))) ρ1) := rfl
theorem q_idxV {i : Nat} {b : E} : wE Γ Φ (.idxV i b) ρ Q = ((∃ ts, ρ[i]? = some (some (.own ts))) ∧ wE Γ Φ b ρ fun y ρ1 => ∃ ts k z, ρ1[i]? = some (some (.own ts)) ∧ y = .d (.int k) ∧ (Tv.own ts).item k = some (.d z) ∧ Q (.d z) ρ1) := rfl
theorem q_pop {i : Nat} {a : E} : wE Γ Φ (.pop i a) ρ Q = ((∃ ts, ρ[i]? = some (some (.own ts))) ∧ wE Γ Φ a ρ fun y ρ1 => ∃ ts k x, y = .d (.int k) ∧ ρ1[i]? = some (some (.own ts)) ∧ 0 ≤ k ∧ k < 2 ^ 63 ∧ ts[k.toNat]? = some x ∧ Q x (ρ1.set i (some (.own (ts.eraseIdx k.toNat))))) := rfl
theorem q_call {f : Str} {es : EL} {fe : FE} (h : Φ f = some fe) (ho : fe.ow = none) : wE Γ Φ (.call f es) ρ Q = wEs Γ Φ es ρ fun xs ρ1 => ∃ as, argTs xs = some as ∧ fe.fs as fun z _ => Q z ρ1 := by
  rw [wE]
  simp only [h, Option.some.injEq, exists_eq_left', ho]
theorem q_callO {f : Str} {e : E} {es : EL} {fe : FE} (h : Φ f = some fe) (ho : fe.ow = some 0) : wE Γ Φ (.call f (.cons e es)) ρ Q = ∃ i, e.var? = some i ∧ (∃ x, ρ[i]? = some (some x)) ∧ wEs Γ Φ es ρ fun xs ρ1 => ∃ as ts, argTs xs = some as ∧ ρ1[i]? = some (some (.own ts)) ∧
          fe.fs (.own ts :: as) fun z news => ∃ x', news[0]? = some (some x') ∧ Q z (ρ1.set i (some x')) := by
  rw [wE]
  simp only [h, Option.some.injEq, exists_eq_left', ho]
theorem q_callL {f : Str} {ss : List SE} {fe : FE} (h : Φ f = some fe) (ho : fe.ow = none) : wE Γ Φ (.callL f ss) ρ Q = ∃ xs as, svs Γ ρ ss = some xs ∧ argTs xs = some as ∧ fe.fs as fun z _ => scalT z = true ∧ Q z ρ := by
  rw [wE]
  simp only [h, Option.some.injEq, exists_and_left, exists_eq_left', ho, true_and]
theorem q_es0 {R : List Tv → Env' → Prop} : wEs Γ Φ .nil ρ R = R [] ρ := rfl
theorem q_es1 {e : E} {es : EL} {R : List Tv → Env' → Prop} : wEs Γ Φ (.cons e es) ρ R = wE Γ Φ e ρ fun x ρ1 => wEs Γ Φ es ρ1 fun xs ρ2 => R (x :: xs) ρ2 := rfl
theorem q_o0 {R : Option Int → Env' → Prop} : wO Γ Φ .non ρ R = R none ρ := rfl
theorem q_o1 {e : E} {R : Option Int → Env' → Prop} : wO Γ Φ (.som e) ρ R = wE Γ Φ e ρ fun x ρ1 => ∃ k, x = .d (.int k) ∧ R (some k) ρ1 := rfl
theorem q_c0 {R : Bool → Env' → Prop} : wC Γ Φ .non ρ R = R true ρ := rfl
theorem q_c1 {e : E} {R : Bool → Env' → Prop} : wC Γ Φ (.som e) ρ R = wE Γ Φ e ρ fun x ρ1 => ∃ k, x = .d (.bool k) ∧ R k ρ1 := rfl
theorem q_seq {a : E} {R : List PyData → Env' → Prop} : wI Γ Φ (.seq a) ρ R = wE Γ Φ a ρ fun x ρ1 => ∃ d xs, x.frz = some d ∧ PyData.itemsOf d = some xs ∧ R xs ρ1 := rfl
theorem q_rng {a : OE} {b : E} {R : List PyData → Env' → Prop} : wI Γ Φ (.rng a b) ρ R = wO Γ Φ a ρ fun lo ρ1 => wE Γ Φ b ρ1 fun y ρ2 => ∃ j, y = .d (.int j) ∧ -(2 ^ 62) ≤ lo.getD 0 ∧ lo.getD 0 < 2 ^ 62 ∧ -(2 ^ 62) ≤ j ∧ j < 2 ^ 62 ∧
      R ((List.range (j - lo.getD 0).toNat).map fun (k : Nat) => .int (lo.getD 0 + k)) ρ2 := rfl
theorem q_enum {a : E} {R : List PyData → Env' → Prop} : wI Γ Φ (.enum a) ρ R = wE Γ Φ a ρ fun x ρ1 => ∃ d xs, x.frz = some d ∧ PyData.itemsOf d = some xs ∧ R (xs.mapIdx fun k x => .tuple [.int k, x]) ρ1 := rfl
theorem q_zip {a b : E} {R : List PyData → Env' → Prop} : wI Γ Φ (.zip a b) ρ R = wE Γ Φ a ρ fun x ρ1 => wE Γ Φ b ρ1 fun y ρ2 => ∃ d e xs ys, x.frz = some d ∧ y.frz = some e ∧ PyData.itemsOf d = some xs ∧ PyData.itemsOf e = some ys ∧
      R (List.zipWith (fun p q => .tuple [p, q]) xs ys) ρ2 := rfl
theorem g_name {i : Nat} {x : PyData} {R : Env' → Prop} : wTg (.name i) x ρ R = (i < ρ.length ∧ R (ρ.set i (some (.d x)))) := rfl
theorem g_tup {ts : TgL} {x : PyData} {R : Env' → Prop} : wTg (.tup ts) x ρ R = ∃ xs, PyData.itemsOf x = some xs ∧ wTgs ts xs ρ R := rfl
theorem g_t0 {xs : List PyData} {R : Env' → Prop} : wTgs .nil xs ρ R = (xs = [] ∧ R ρ) := rfl
theorem g_t1 {t : Tg} {ts : TgL} {xs : List PyData} {R : Env' → Prop} : wTgs (.cons t ts) xs ρ R = ∃ y ys, xs = y :: ys ∧ wTg t y ρ fun ρ1 => wTgs ts ys ρ1 R := rfl
theorem o_add {i j : Int} {R : Tv → Prop} : opB .add (.d (.int i)) (.d (.int j)) R = R (.d (.int (i + j))) := rfl
theorem o_sub {i j : Int} {R : Tv → Prop} : opB .sub (.d (.int i)) (.d (.int j)) R = R (.d (.int (i - j))) := rfl
theorem o_mul {i j : Int} {R : Tv → Prop} : opB .mul (.d (.int i)) (.d (.int j)) R = ((CMul i j ∨ CMulW i j) ∧ R (.d (.int (i * j)))) := rfl
theorem o_fdiv {i j : Int} {R : Tv → Prop} : opB .fdiv (.d (.int i)) (.d (.int j)) R = (CDivW i j ∧ R (.d (.int (i / j)))) := rfl
theorem o_mod {i j : Int} {R : Tv → Prop} : opB .mod (.d (.int i)) (.d (.int j)) R = (0 < j ∧ R (.d (.int (i % j)))) := rfl
theorem o_pow {i j : Int} {R : Tv → Prop} : opB .pow (.d (.int i)) (.d (.int j)) R = (CPow i j ∧ R (.d (.int (i ^ j.toNat)))) := rfl
theorem f_d {x : PyData} : (Tv.d x).frz = some x := rfl
theorem f_nil : (Tv.own []).frz = some (.list []) := rfl
theorem c_lt {i j : Int} {R : Bool → Prop} : cmpO .lt (.d (.int i)) (.d (.int j)) R = R (decide (i < j)) := by
  refine propext ⟨fun ⟨a, b, h1, h2, h⟩ => ?_, fun h => ⟨_, _, rfl, rfl, h⟩⟩
  cases h1; cases h2; exact h
theorem c_le {i j : Int} {R : Bool → Prop} : cmpO .le (.d (.int i)) (.d (.int j)) R = R (decide (i ≤ j)) := by
  refine propext ⟨fun ⟨a, b, h1, h2, h⟩ => ?_, fun h => ⟨_, _, rfl, rfl, h⟩⟩
  cases h1; cases h2; exact h
theorem c_gt {i j : Int} {R : Bool → Prop} : cmpO .gt (.d (.int i)) (.d (.int j)) R = R (decide (j < i)) := by
  refine propext ⟨fun ⟨a, b, h1, h2, h⟩ => ?_, fun h => ⟨_, _, rfl, rfl, h⟩⟩
  cases h1; cases h2; exact h
theorem c_ge {i j : Int} {R : Bool → Prop} : cmpO .ge (.d (.int i)) (.d (.int j)) R = R (decide (j ≤ i)) := by
  refine propext ⟨fun ⟨a, b, h1, h2, h⟩ => ?_, fun h => ⟨_, _, rfl, rfl, h⟩⟩
  cases h1; cases h2; exact h
theorem c_eq {i j : Int} {R : Bool → Prop} : cmpO .eq (.d (.int i)) (.d (.int j)) R = R (i == j) := by
  refine propext ⟨fun ⟨a, b, h1, h2, h⟩ => ?_, fun h => ⟨_, _, rfl, rfl, rfl, rfl, h⟩⟩
  cases h1; cases h2; exact h.2.2
theorem c_ne {i j : Int} {R : Bool → Prop} : cmpO .ne (.d (.int i)) (.d (.int j)) R = R (!(i == j)) := by
  refine propext ⟨fun ⟨a, b, h1, h2, h⟩ => ?_, fun h => ⟨_, _, rfl, rfl, rfl, rfl, h⟩⟩
  cases h1; cases h2; exact h.2.2
theorem if_l {k : Bool} {A B : Prop} (h1 : k = true → A) (h2 : k = false → B) : wIfL k A B := ⟨h1, h2⟩
theorem if_tt {A B : Prop} : wIfL true A B = A := propext ⟨fun h => h.1 rfl, fun h => ⟨fun _ => h, fun z => nomatch z⟩⟩
theorem if_ff {A B : Prop} : wIfL false A B = B := propext ⟨fun h => h.2 rfl, fun h => ⟨fun z => (nomatch z), fun _ => h⟩⟩
theorem at0 {α : Type} {x : α} {xs : List α} : atI (x :: xs) 0 = some x := by simp [atI, ixN]
theorem at1 {α : Type} {x y : α} {xs : List α} : atI (x :: y :: xs) 1 = some y := atI_nat (j := 1) rfl
theorem at2 {α : Type} {x y z : α} {xs : List α} : atI (x :: y :: z :: xs) 2 = some z := atI_nat (j := 2) rfl
theorem ix_n {n i : Nat} (h : i < n) : ixN n (i : Int) = some i := by
  unfold ixN
  rw [if_pos (by omega), if_pos (by omega)]
  simp
theorem ix0 {n : Nat} : ixN (n + 1) 0 = some 0 := ix_n (i := 0) (by omega)
theorem ix1 {n : Nat} : ixN (n + 2) 1 = some 1 := ix_n (i := 1) (by omega)
theorem ix2 {n : Nat} : ixN (n + 3) 2 = some 2 := ix_n (i := 2) (by omega)
end
def deck (a b c : Int) : Tv := .own [.d (.int a), .d (.int b), .d (.int c)]
end Tr
set_option Elab.async false
set_option linter.all false
set_option maxRecDepth 100000
set_option maxHeartbeats 4000000
namespace Tr
open PySem PySem.Spec PyProof.Rows L2
/-- a def of the text that may be called -/
structure Has (P : Program) (w : World) (K : PySem.W.Frag) (mg : Str → Option Value) (base : Heap) (k : Nat) (f : Str) (fe : FE) : Prop where
  lm : lamB f = true → LamHas P w K mg base k fe
  ex : lamB f = false → ∃ addr fd, mg f = some (.ref addr) ∧ PySem.W.keepIn K (.ref addr) = true ∧ GnOk P w K mg base k addr fd fe.ps (liftF K fe.ow fe.fs) ∧ Binds K fd fe.ps [] ∧ ∀ ks ∈ fe.kw, BK fd fe.ps ks
section
variable {P : Program} {w : World} {K : PySem.W.Frag} {mg : Str → Option Value} {base : Heap}
theorem Has.mono {j k : Nat} {f : Str} {fe : FE} (h : Has P w K mg base j f fe) (l : j ≤ k) : Has P w K mg base k f fe := by
  refine ⟨fun z => (h.lm z).mono l, fun z => ?_⟩
  obtain ⟨addr, fd, h1, h2, h3, h4⟩ := h.ex z
  exact ⟨addr, fd, h1, h2, h3.mono l, h4⟩
def HasAll (P : Program) (w : World) (K : PySem.W.Frag) (mg : Str → Option Value) (base : Heap) (k : Nat) : List (Str × FE) → Prop
  | [] => True
  | p :: l => Has P w K mg base k p.1 p.2 ∧ HasAll P w K mg base k l
theorem HasAll.at {k : Nat} : ∀ {l : List (Str × FE)} {f : Str} {fe : FE}, HasAll P w K mg base k l → l.lookup f = some fe → Has P w K mg base k f fe
  | [], _, _, _, e => by cases e
  | (x, y) :: l, f, fe, h, e => by
    rw [List.lookup_cons] at e
    split at e
    · rename_i q
      cases e
      have q : f = x := by simpa using q
      rw [q]
      exact h.1
    · exact HasAll.at h.2 e
def phiOf (l : List (Str × FE)) : Phi := fun f => l.lookup f
theorem HasAll.gdm {Γ : Gam} {k : Nat} {l : List (Str × FE)} (h : HasAll P w K mg base k l) (bl : ∀ x ∈ bnames, mg x = none) (gl : ∀ x d, Γ x = some d → ∃ u v, mg x = some u ∧ RelV v u ∧ ∀ G, Dq G v d) : GdM Γ (phiOf l) k P w K mg base :=
  ⟨bl, gl, fun f fe e z => (h.at e).lm z, fun f fe e z => (h.at e).ex z⟩
theorem has_def {Γ : Gam} {Φ : Phi} {k : Nat} {x : Str} {st : Stmt} {f : Addr} {fd : FuncData} {N ps : List Str} {b : SL} {ow : Option Nat} {kws : List (List Str)} {sp : FS} {lm : Bool}
    (M : GdM Γ Φ k P w K mg base) (F : Fun K x x st f fd) (S : FnScope N ps (defScope st)) (hb : okSL N (defScope st) ow lm b (defBody st) = true) (hlm : lm = true → MkOk K mg base x fd) (how : ∀ i, ow = some i → i < ps.length)
    (hsp : ∀ xs Q, sp xs Q → fsOf Γ Φ ps.length N.length b xs Q) (hm : mg x = some (.ref f)) (hbd : Binds K fd ps []) (hkw : ∀ ks ∈ kws, BK fd ps ks) (hx : lamB x = false := by decide) : Has P w K mg base (k + 1) x ⟨ps, kws, ow, sp⟩ :=
  ⟨fun z => (by rw [hx] at z; cases z), fun _ => ⟨f, fd, hm, F.kp, fn_ok M F S hb hlm how hsp, hbd, hkw⟩⟩
/-- how keywords bind, of a def without defaults -/
theorem fun_bk {x qual : Str} {st : Stmt} {f : Addr} {fd : FuncData} {ps ks : List Str} (F : Fun K x qual st f fd)
    (h : ∀ (kV doc pm : Value) (an : Option Addr) (cdv ct : Value) (ws as : List Value), ks.length = ws.length → kperm ks ws ps = some as →
      bindArgs (PySem.W.fnOf x qual (defArgs st) (defBody st) (defScope st) .none kV doc pm an cdv ct) ⟨[], ks.zip ws⟩ = pure (ps.zip as)) : BK fd ps ks := by
  obtain ⟨oc, od, kV, doc, pm, an, cdv, ct, osl, rfl, lk, hcd⟩ := F.ex
  exact fun s ws as hl hk => .of_eq (h kV doc pm an cdv ct ws as hl hk)
def isNone2 : Option (Option Value) → Bool
  | some none => true
  | _ => false
theorem blt_of {h : Heap} (X : K.In h) (G : h.Ns mainGlobals mg) (z : (bnames.all fun x => isNone2 (PySem.W.nsIn K mainGlobals x)) = true) : ∀ x ∈ bnames, mg x = none := fun x hx => by
  have q := List.all_eq_true.mp z x hx
  refine PySem.W.mg_none_of X G ?_
  generalize PySem.W.nsIn K mainGlobals x = o at q
  match o, q with
  | some none, _ => rfl
end
end Tr
local macro_rules
  | `(tactic| simp_arith only $[$l:location]?) => `(tactic| simp only [Tr.r_nil, Tr.r_cons, Tr.r_set, Tr.r_unp, Tr.r_par, Tr.r_ix1, Tr.r_ix2, Tr.r_ixp, Tr.r_ixe, Tr.r_dput, Tr.r_app, Tr.r_ext, Tr.r_exT, Tr.r_expr, Tr.r_ret, Tr.r_retv, Tr.r_retN, Tr.r_if, Tr.r_for, Tr.r_while, Tr.r_pass, Tr.r_brk, Tr.r_cont, Tr.q_sim, Tr.q_bin, Tr.q_neg, Tr.q_cmp, Tr.q_isN, Tr.q_notN, Tr.q_chain, Tr.q_and, Tr.q_or, Tr.q_and1, Tr.q_and2, Tr.q_or1, Tr.q_or2, Tr.q_not, Tr.q_ite, Tr.q_tup, Tr.q_lst, Tr.q_idx, Tr.q_slice, Tr.q_rev, Tr.q_blt1, Tr.q_bltv, Tr.q_blt2, Tr.q_sortset, Tr.q_lrng, Tr.q_lc, Tr.q_lcO, Tr.q_pop, Tr.q_index, Tr.q_maxd, Tr.q_idxL, Tr.q_idxD, Tr.q_idxV, Tr.q_isi, Tr.q_fza, Tr.q_fzl, Tr.q_dct, Tr.q_dmk, Tr.q_dgt, Tr.q_dnew, Tr.q_dget, Tr.q_dgd, Tr.q_din, Tr.dm_get_k, Tr.dm_put_k, Tr.dm_size_k, Tr.Tv.map.injEq, Tr.q_es0, Tr.q_es1, Tr.q_o0, Tr.q_o1, Tr.q_c0, Tr.q_c1, Tr.q_seq, Tr.q_rng, Tr.q_enum, Tr.q_zip, Tr.g_name, Tr.g_tup, Tr.g_t0, Tr.g_t1, Tr.o_add, Tr.o_sub, Tr.o_mul, Tr.o_mulT, Tr.o_fdiv, Tr.o_mod, Tr.o_pow, Tr.f_d, Tr.f_nil, Tr.c_lt, Tr.c_le, Tr.c_gt, Tr.c_ge, Tr.c_eq, Tr.c_ne, Tr.at0, Tr.at1, Tr.at2, Tr.ix0, Tr.ix1, Tr.ix2, Tr.v_var, Tr.v_int, Tr.v_str, Tr.v_bl, Tr.v_non, Tr.v_glob, Tr.v_add, Tr.v_sub, Tr.v_neg, Tr.v_idx, Tr.v_len, Tr.onV_d, Tr.onV_scr, Tr.onW_d, Tr.onW_scr, Tr.onW_own, Tr.onW_fn, Tr.simR, Tr.sv, Tr.frzT, Tr.E.sim?, Tr.E.var?, Tr.SE.var?, Tr.Tv.item, Tr.Tv.len, Tr.PyData.itemsOf, List.map_cons, List.map_nil, List.replicate, List.cons_append, List.nil_append, List.length_cons, List.length_nil, List.set_cons_zero, List.set_cons_succ, List.getElem?_cons_zero, List.getElem?_cons_succ, Option.join_some, Option.some.injEq, Option.map_some, exists_eq', exists_eq, exists_eq_left', exists_eq_left, exists_and_left, Option.bind_some, Option.bind_eq_bind, Option.pure_def, Tr.wipeR, Tr.restR, Tr.keepD, Tr.Tv.d.injEq, Tr.Tv.own.injEq, PySem.PyData.int.injEq, PySem.PyData.bool.injEq, PySem.PyData.tuple.injEq, PySem.PyData.list.injEq, PySem.PyData.str.injEq, List.cons.injEq, and_true, Tr.if_tt, Tr.if_ff, Option.bind_none, Option.getD_none, Option.getD_some, Int.sub_zero, Int.zero_add, and_assoc, true_and, exists_const, Nat.reduceAdd, Nat.reduceLT, Nat.reduceSub, Nat.zero_add] $[$l:location]?)
  | `(tactic| simp_arith only [$xs,*] $[$l:location]?) => `(tactic| simp only [$xs,*, Tr.r_nil, Tr.r_cons, Tr.r_set, Tr.r_unp, Tr.r_par, Tr.r_ix1, Tr.r_ix2, Tr.r_ixp, Tr.r_ixe, Tr.r_dput, Tr.r_app, Tr.r_ext, Tr.r_exT, Tr.r_expr, Tr.r_ret, Tr.r_retv, Tr.r_retN, Tr.r_if, Tr.r_for, Tr.r_while, Tr.r_pass, Tr.r_brk, Tr.r_cont, Tr.q_sim, Tr.q_bin, Tr.q_neg, Tr.q_cmp, Tr.q_isN, Tr.q_notN, Tr.q_chain, Tr.q_and, Tr.q_or, Tr.q_and1, Tr.q_and2, Tr.q_or1, Tr.q_or2, Tr.q_not, Tr.q_ite, Tr.q_tup, Tr.q_lst, Tr.q_idx, Tr.q_slice, Tr.q_rev, Tr.q_blt1, Tr.q_bltv, Tr.q_blt2, Tr.q_sortset, Tr.q_lrng, Tr.q_lc, Tr.q_lcO, Tr.q_pop, Tr.q_index, Tr.q_maxd, Tr.q_idxL, Tr.q_idxD, Tr.q_idxV, Tr.q_isi, Tr.q_fza, Tr.q_fzl, Tr.q_dct, Tr.q_dmk, Tr.q_dgt, Tr.q_dnew, Tr.q_dget, Tr.q_dgd, Tr.q_din, Tr.dm_get_k, Tr.dm_put_k, Tr.dm_size_k, Tr.Tv.map.injEq, Tr.q_es0, Tr.q_es1, Tr.q_o0, Tr.q_o1, Tr.q_c0, Tr.q_c1, Tr.q_seq, Tr.q_rng, Tr.q_enum, Tr.q_zip, Tr.g_name, Tr.g_tup, Tr.g_t0, Tr.g_t1, Tr.o_add, Tr.o_sub, Tr.o_mul, Tr.o_mulT, Tr.o_fdiv, Tr.o_mod, Tr.o_pow, Tr.f_d, Tr.f_nil, Tr.c_lt, Tr.c_le, Tr.c_gt, Tr.c_ge, Tr.c_eq, Tr.c_ne, Tr.at0, Tr.at1, Tr.at2, Tr.ix0, Tr.ix1, Tr.ix2, Tr.v_var, Tr.v_int, Tr.v_str, Tr.v_bl, Tr.v_non, Tr.v_glob, Tr.v_add, Tr.v_sub, Tr.v_neg, Tr.v_idx, Tr.v_len, Tr.onV_d, Tr.onV_scr, Tr.onW_d, Tr.onW_scr, Tr.onW_own, Tr.onW_fn, Tr.simR, Tr.sv, Tr.frzT, Tr.E.sim?, Tr.E.var?, Tr.SE.var?, Tr.Tv.item, Tr.Tv.len, Tr.PyData.itemsOf, List.map_cons, List.map_nil, List.replicate, List.cons_append, List.nil_append, List.length_cons, List.length_nil, List.set_cons_zero, List.set_cons_succ, List.getElem?_cons_zero, List.getElem?_cons_succ, Option.join_some, Option.some.injEq, Option.map_some, exists_eq', exists_eq, exists_eq_left', exists_eq_left, exists_and_left, Option.bind_some, Option.bind_eq_bind, Option.pure_def, Tr.wipeR, Tr.restR, Tr.keepD, Tr.Tv.d.injEq, Tr.Tv.own.injEq, PySem.PyData.int.injEq, PySem.PyData.bool.injEq, PySem.PyData.tuple.injEq, PySem.PyData.list.injEq, PySem.PyData.str.injEq, List.cons.injEq, and_true, Tr.if_tt, Tr.if_ff, Option.bind_none, Option.getD_none, Option.getD_some, Int.sub_zero, Int.zero_add, and_assoc, true_and, exists_const, Nat.reduceAdd, Nat.reduceLT, Nat.reduceSub, Nat.zero_add] $[$l:location]?)
  | `(tactic| simp_arith $[$l:location]?) => `(tactic| simp only [Tr.r_nil, Tr.r_set, Tr.r_unp, Tr.r_par, Tr.r_ix1, Tr.r_ix2, Tr.r_ixp, Tr.r_ixe, Tr.r_dput, Tr.r_app, Tr.r_ext, Tr.r_exT, Tr.r_expr, Tr.r_ret, Tr.r_retv, Tr.r_retN, Tr.r_if, Tr.r_for, Tr.r_while, Tr.r_pass, Tr.r_brk, Tr.r_cont, Tr.q_sim, Tr.q_bin, Tr.q_neg, Tr.q_cmp, Tr.q_isN, Tr.q_notN, Tr.q_chain, Tr.q_and, Tr.q_or, Tr.q_and1, Tr.q_and2, Tr.q_or1, Tr.q_or2, Tr.q_not, Tr.q_ite, Tr.q_tup, Tr.q_lst, Tr.q_idx, Tr.q_slice, Tr.q_rev, Tr.q_blt1, Tr.q_bltv, Tr.q_blt2, Tr.q_sortset, Tr.q_lrng, Tr.q_lc, Tr.q_lcO, Tr.q_pop, Tr.q_index, Tr.q_maxd, Tr.q_idxL, Tr.q_idxD, Tr.q_idxV, Tr.q_isi, Tr.q_fza, Tr.q_fzl, Tr.q_dct, Tr.q_dmk, Tr.q_dgt, Tr.q_dnew, Tr.q_dget, Tr.q_dgd, Tr.q_din, Tr.dm_get_k, Tr.dm_put_k, Tr.dm_size_k, Tr.Tv.map.injEq, Tr.q_es0, Tr.q_es1, Tr.q_o0, Tr.q_o1, Tr.q_c0, Tr.q_c1, Tr.q_seq, Tr.q_rng, Tr.q_enum, Tr.q_zip, Tr.g_name, Tr.g_tup, Tr.g_t0, Tr.g_t1, Tr.o_add, Tr.o_sub, Tr.o_mul, Tr.o_mulT, Tr.o_fdiv, Tr.o_mod, Tr.o_pow, Tr.f_d, Tr.f_nil, Tr.c_lt, Tr.c_le, Tr.c_gt, Tr.c_ge, Tr.c_eq, Tr.c_ne, Tr.at0, Tr.at1, Tr.at2, Tr.ix0, Tr.ix1, Tr.ix2, Tr.v_var, Tr.v_int, Tr.v_str, Tr.v_bl, Tr.v_non, Tr.v_glob, Tr.v_add, Tr.v_sub, Tr.v_neg, Tr.v_idx, Tr.v_len, Tr.onV_d, Tr.onV_scr, Tr.onW_d, Tr.onW_scr, Tr.onW_own, Tr.onW_fn, Tr.simR, Tr.sv, Tr.frzT, Tr.E.sim?, Tr.E.var?, Tr.SE.var?, Tr.Tv.item, Tr.Tv.len, Tr.PyData.itemsOf, List.map_cons, List.map_nil, List.replicate, List.cons_append, List.nil_append, List.length_cons, List.length_nil, List.set_cons_zero, List.set_cons_succ, List.getElem?_cons_zero, List.getElem?_cons_succ, Option.join_some, Option.some.injEq, Option.map_some, exists_eq', exists_eq, exists_eq_left', exists_eq_left, exists_and_left, Option.bind_some, Option.bind_eq_bind, Option.pure_def, Tr.wipeR, Tr.restR, Tr.keepD, Tr.Tv.d.injEq, Tr.Tv.own.injEq, PySem.PyData.int.injEq, PySem.PyData.bool.injEq, PySem.PyData.tuple.injEq, PySem.PyData.list.injEq, PySem.PyData.str.injEq, List.cons.injEq, and_true, Tr.if_tt, Tr.if_ff, Option.bind_none, Option.getD_none, Option.getD_some, Int.sub_zero, Int.zero_add, and_assoc, true_and, exists_const, Nat.reduceAdd, Nat.reduceLT, Nat.reduceSub, Nat.zero_add] $[$l:location]?)
  | `(tactic| simp_arith [$xs,*] $[$l:location]?) => `(tactic| simp only [$xs,*, Tr.r_nil, Tr.r_set, Tr.r_unp, Tr.r_par, Tr.r_ix1, Tr.r_ix2, Tr.r_ixp, Tr.r_ixe, Tr.r_dput, Tr.r_app, Tr.r_ext, Tr.r_exT, Tr.r_expr, Tr.r_ret, Tr.r_retv, Tr.r_retN, Tr.r_if, Tr.r_for, Tr.r_while, Tr.r_pass, Tr.r_brk, Tr.r_cont, Tr.q_sim, Tr.q_bin, Tr.q_neg, Tr.q_cmp, Tr.q_isN, Tr.q_notN, Tr.q_chain, Tr.q_and, Tr.q_or, Tr.q_and1, Tr.q_and2, Tr.q_or1, Tr.q_or2, Tr.q_not, Tr.q_ite, Tr.q_tup, Tr.q_lst, Tr.q_idx, Tr.q_slice, Tr.q_rev, Tr.q_blt1, Tr.q_bltv, Tr.q_blt2, Tr.q_sortset, Tr.q_lrng, Tr.q_lc, Tr.q_lcO, Tr.q_pop, Tr.q_index, Tr.q_maxd, Tr.q_idxL, Tr.q_idxD, Tr.q_idxV, Tr.q_isi, Tr.q_fza, Tr.q_fzl, Tr.q_dct, Tr.q_dmk, Tr.q_dgt, Tr.q_dnew, Tr.q_dget, Tr.q_dgd, Tr.q_din, Tr.dm_get_k, Tr.dm_put_k, Tr.dm_size_k, Tr.Tv.map.injEq, Tr.q_es0, Tr.q_es1, Tr.q_o0, Tr.q_o1, Tr.q_c0, Tr.q_c1, Tr.q_seq, Tr.q_rng, Tr.q_enum, Tr.q_zip, Tr.g_name, Tr.g_tup, Tr.g_t0, Tr.g_t1, Tr.o_add, Tr.o_sub, Tr.o_mul, Tr.o_mulT, Tr.o_fdiv, Tr.o_mod, Tr.o_pow, Tr.f_d, Tr.f_nil, Tr.c_lt, Tr.c_le, Tr.c_gt, Tr.c_ge, Tr.c_eq, Tr.c_ne, Tr.at0, Tr.at1, Tr.at2, Tr.ix0, Tr.ix1, Tr.ix2, Tr.v_var, Tr.v_int, Tr.v_str, Tr.v_bl, Tr.v_non, Tr.v_glob, Tr.v_add, Tr.v_sub, Tr.v_neg, Tr.v_idx, Tr.v_len, Tr.onV_d, Tr.onV_scr, Tr.onW_d, Tr.onW_scr, Tr.onW_own, Tr.onW_fn, Tr.simR, Tr.sv, Tr.frzT, Tr.E.sim?, Tr.E.var?, Tr.SE.var?, Tr.Tv.item, Tr.Tv.len, Tr.PyData.itemsOf, List.map_cons, List.map_nil, List.replicate, List.cons_append, List.nil_append, List.length_cons, List.length_nil, List.set_cons_zero, List.set_cons_succ, List.getElem?_cons_zero, List.getElem?_cons_succ, Option.join_some, Option.some.injEq, Option.map_some, exists_eq', exists_eq, exists_eq_left', exists_eq_left, exists_and_left, Option.bind_some, Option.bind_eq_bind, Option.pure_def, Tr.wipeR, Tr.restR, Tr.keepD, Tr.Tv.d.injEq, Tr.Tv.own.injEq, PySem.PyData.int.injEq, PySem.PyData.bool.injEq, PySem.PyData.tuple.injEq, PySem.PyData.list.injEq, PySem.PyData.str.injEq, List.cons.injEq, and_true, Tr.if_tt, Tr.if_ff, Option.bind_none, Option.getD_none, Option.getD_some, Int.sub_zero, Int.zero_add, and_assoc, true_and, exists_const, Nat.reduceAdd, Nat.reduceLT, Nat.reduceSub, Nat.zero_add] $[$l:location]?)
set_option Elab.async false
set_option linter.all false
set_option maxRecDepth 100000
set_option maxHeartbeats 4000000
set_option exponentiation.threshold 3000
namespace Tr
open PySem PySem.Spec PyProof.Rows L2
theorem b_int {i : Int} {R : Tv → Prop} : bltO .int [.d (.int i)] R = R (.d (.int i)) := by
  refine propext ⟨fun ⟨d, j, h1, h2, h⟩ => ?_, fun h => ⟨_, _, rfl, rfl, h⟩⟩
  cases h1; cases h2; exact h
theorem b_intb {i : Bool} {R : Tv → Prop} : bltO .int [.d (.bool i)] R = R (.d (.int (if i then 1 else 0))) := by
  refine propext ⟨fun ⟨d, j, h1, h2, h⟩ => ?_, fun h => ⟨_, _, rfl, rfl, h⟩⟩
  cases h1; cases h2; exact h
theorem b_abs {i : Int} {R : Tv → Prop} : bltO .abs [.d (.int i)] R = R (.d (.int (if i < 0 then -i else i))) := by
  refine propext ⟨fun ⟨d, h1, h⟩ => ?_, fun h => ⟨_, rfl, h⟩⟩
  cases h1; exact h
theorem frzs_map : ∀ ds : List PyData, frzs (ds.map Tv.d) = some ds
  | [] => rfl
  | d :: ds => by
    show frzs (.d d :: ds.map Tv.d) = _
    rw [frzs, frzs_map ds]
    rfl
theorem f_own {ds : List PyData} : (Tv.own (ds.map Tv.d)).frz = some (.list ds) := by rw [Tv.frz, frzs_map]
theorem s_scr {ns : List Int} {lo hi : Option Int} {R : Tv → Prop} : sliceO (.scr ns) lo hi R = R (.own (((cutD ns lo hi).map PyData.int).map Tv.d)) := by
  show R _ = R _
  rw [List.map_map]
  rfl
theorem m_small {i j : Int} (h1 : -(2 ^ 64) < j) (h2 : j < 2 ^ 64) : CMul i j ∨ CMulW i j := .inl (.inr ⟨h1, h2⟩)
theorem m_small' {i j : Int} (h1 : -(2 ^ 64) < i) (h2 : i < 2 ^ 64) : CMul i j ∨ CMulW i j := .inl (.inl ⟨h1, h2⟩)
def bTake3 : SL := (.cons (.ite (.cmp .gt (.sim (.idx (.var 0) (.int 0))) (.sim (.int 0)))
  (.cons (.set 3 (.bin .mod (.bltv .int (.sim (.idx (.var 0) (.int 0)))) (.sim (.var 1))))
  (.cons (.ix1 0 (.int 0) (.bin .fdiv (.sim (.idx (.var 0) (.int 0))) (.sim (.var 1))))
  (.cons (.retv 3)
  .nil)))
  .nil)
  (.cons (.ix1 0 (.int 2) (.bin .add (.sim (.idx (.var 0) (.int 2))) (.sim (.int 1))))
  (.cons (.set 2 (.bin .add (.bin .add (.bin .mul (.sim (.idx (.var 0) (.int 1))) (.sim (.int 2862933555777941757))) (.bin .mul (.sim (.int 1181783497276652981)) (.sim (.idx (.var 0) (.int 2))))) (.sim (.int 7))))
  (.cons (.ix1 0 (.int 1) (.bin .mod (.bltv .int (.sim (.var 2))) (.sim (.int 2305843009213693951))))
  (.cons (.ret (.bin .mod (.bin .fdiv (.bin .mod (.bltv .int (.bin .mul (.sim (.idx (.var 0) (.int 1))) (.sim (.idx (.var 0) (.int 1))))) (.sim (.int 2305843009213693921))) (.sim (.int 4096))) (.sim (.var 1))))
  .nil)))))
/-- a digit off the deck -/
def spTake3 : FS := fun xs Q => ∃ a b c m, xs = [deck a b c, .d (.int m)] ∧ 0 < m ∧ m < 2 ^ 2000 ∧ ∀ r a' b' c' rest, 0 ≤ r → r < m → Q (.d (.int r)) (some (deck a' b' c') :: rest)
theorem div_ok {a m : Int} (h0 : 0 < m) (h1 : m < 2 ^ 2000) : CDivW a m := wide_div (b := 2000) h0 (by
  have e : (m.natAbs : Int) = m := Int.natAbs_of_nonneg (by omega)
  have h2 : (m.natAbs : Int) < ((2 ^ 2000 : Nat) : Int) := by
    rw [e, Int.natCast_pow]
    exact h1
  exact Int.ofNat_lt.mp h2) (by decide) (by decide)
theorem ok_take3 {Γ : Gam} {Φ : Phi} : ∀ xs Q, spTake3 xs Q → fsOf Γ Φ 2 4 bTake3 xs Q := by
  rintro xs Q ⟨a, b, c, m, rfl, h0, h1, hq⟩
  refine ⟨rfl, ?_⟩
  simp_arith only [bTake3, deck, b_int]
  have z := div_ok (a := a) h0 h1
  refine if_l (fun _ => ⟨h0, z, hq _ _ _ _ _ (Int.emod_nonneg _ (by omega)) (Int.emod_lt_of_pos _ h0)⟩) fun _ => ?_
  have lo := Int.emod_nonneg (b * 2862933555777941757 + 1181783497276652981 * (c + 1) + 7) (b := 2305843009213693951) (by decide)
  have hi := Int.emod_lt_of_pos (b * 2862933555777941757 + 1181783497276652981 * (c + 1) + 7) (b := 2305843009213693951) (by decide)
  refine ⟨m_small (by decide) (by decide), m_small' (by decide) (by decide), by decide, m_small (by omega) (by omega), by decide, wide_div (b := 13) (by decide) (by decide) (by decide) (by decide), h0, hq _ _ _ _ _ (Int.emod_nonneg _ (by omega)) (Int.emod_lt_of_pos _ h0)⟩
def bDeck3 (k p : Nat) : SL := (.cons (.par [2, 3] (.cons (.sim (.int 0)) (.cons (.bin .add (.sim (.int (12750 : Nat))) (.bin .mul (.sim (.int 43)) (.sim (.len (.var 0))))) .nil)))
  (.cons (.for_ (.name 1) (.seq (.slice (.sim (.var 0)) .non (.som (.sim (.int 63)))))
  (.cons (.ite (.cmp .ge (.sim (.var 1)) (.bin .pow (.sim (.int 10)) (.sim (.int 18))))
  (.cons (.set 2 (.bin .sub (.bin .add (.bin .mul (.sim (.var 2)) (.sim (.int 53))) (.sim (.var 1))) (.bin .pow (.sim (.int 10)) (.sim (.int 18)))))
  .nil)
  (.cons (.set 3 (.bin .add (.bin .add (.bin .mul (.sim (.var 3)) (.sim (.int 3202034522624059733))) (.bin .mul (.sim (.int 2)) (.bltv .abs (.sim (.var 1))))) (.bltv .int (.cmp .lt (.sim (.var 1)) (.sim (.int 0))))))
  (.cons (.set 3 (.bin .mod (.bltv .int (.sim (.var 3))) (.sim (.int 2305843009213693951))))
  .nil)))
  .nil)
  [1])
  (.cons (.ret (.lst (.cons (.sim (.var 2)) (.cons (.sim (.var 3)) (.cons (.sim (.int 0)) .nil)))))
  .nil)))
def spDeck3 : FS := fun xs Q => ∃ ns, xs = [.scr ns] ∧ ∀ a b c rest, Q (deck a b c) rest
theorem pow_ok {i : Int} {j : Int} (h0 : 0 ≤ j) (h1 : j ≤ 1000000) (h2 : i.natAbs < 2 ^ 64) : CPow i j := ⟨h0, h1, h2⟩
theorem ok_deck3 {Γ : Gam} {Φ : Phi} : ∀ xs Q, spDeck3 xs Q → fsOf Γ Φ 1 4 (bDeck3 0 0) xs Q := by
  rintro xs Q ⟨ns, rfl, hq⟩
  refine ⟨rfl, ?_⟩
  simp_arith only [bDeck3, deck, b_int, b_intb, b_abs, s_scr, f_own, List.zip_cons_cons, List.zip_nil_right, List.foldl_cons, List.foldl_nil]
  refine ⟨m_small' (by decide) (by decide), by decide, by decide, ?_⟩
  refine ⟨fun k ρ => ∃ g s, ρ = [some (.scr ns), none, some (.d (.int g)), some (.d (.int s))], ⟨_, _, rfl⟩, ?_, ?_⟩
  · rintro k x ρ2 hx ⟨g, s, rfl⟩
    rw [List.getElem?_map] at hx
    obtain ⟨n, hn, rfl⟩ := Option.map_eq_some_iff.mp hx
    simp_arith only [b_int, b_intb, b_abs]
    exact ⟨pow_ok (by decide) (by decide) (by decide), if_l (fun _ => ⟨m_small (by decide) (by decide), pow_ok (by decide) (by decide) (by decide)⟩) fun _ => ⟨m_small (by decide) (by decide), m_small' (by decide) (by decide), by decide⟩⟩
  · rintro ρ2 ⟨g, s, rfl⟩
    simp_arith only
    exact hq _ _ _ _
def feTake3 : FE := ⟨["_law_deck_here", "_law_many"], [], some 0, spTake3⟩
end Tr
set_option Elab.async false
set_option linter.all false
set_option maxRecDepth 100000
set_option maxHeartbeats 4000000
namespace Tr
open PySem PySem.Spec PyProof.Rows L2
theorem intsOf_map : ∀ ns : List Int, intsOf (ns.map PyData.int) = some ns
  | [] => rfl
  | n :: ns => by
    show (intsOf (ns.map PyData.int)).map (n :: ·) = _
    rw [intsOf_map ns]
    rfl
theorem b_tuple {ds : List PyData} {R : Tv → Prop} : bltO .tuple [.own (ds.map Tv.d)] R = R (.d (.tuple ds)) := by
  refine propext ⟨fun ⟨x, d, xs, h1, h2, h3, h⟩ => ?_, fun h => ⟨_, _, _, rfl, f_own, rfl, h⟩⟩
  cases h1
  rw [f_own] at h2
  cases h2
  cases h3
  exact h
theorem b_tupleL {ds : List PyData} {R : Tv → Prop} : bltO .tuple [.d (.list ds)] R = R (.d (.tuple ds)) := by
  refine propext ⟨fun ⟨x, d, xs, h1, h2, h3, h⟩ => ?_, fun h => ⟨_, _, _, rfl, rfl, rfl, h⟩⟩
  cases h1
  cases h2
  cases h3
  exact h
theorem rev_own {ds : List PyData} {R : Tv → Prop} : revO (.own (ds.map Tv.d)) R = R (.own (ds.reverse.map Tv.d)) := by
  refine propext ⟨fun ⟨xs, h1, h⟩ => ?_, fun h => ⟨_, f_own, h⟩⟩
  rw [f_own] at h1
  cases h1
  exact h
theorem small64 {n : Nat} (h : n < 1000) : n < sizeLine := small1000 (by omega)
theorem map_map_d (ns : List Int) : ns.map (fun n => Tv.d (PyData.int n)) = (ns.map PyData.int).map Tv.d := by rw [List.map_map]; rfl
theorem take_snoc {α : Type} {l : List α} {k : Nat} {x : α} (h : l[k]? = some x) : l.take (k + 1) = l.take k ++ [x] := by rw [List.take_add_one, h]; rfl
theorem nodup_lt : ∀ {ms : List Int}, ms.Pairwise (· < ·) → ms.Nodup := fun h => h.imp fun h e => by omega
theorem len_sub : ∀ {ms ts : List Int}, ms.Nodup → (∀ x ∈ ms, x ∈ ts) → ms.length ≤ ts.length
  | [], _, _, _ => Nat.zero_le _
  | m :: ms, ts, nd, h => by
    have nd' := List.nodup_cons.mp nd
    have hm := h m (by simp)
    have := len_sub (ts := ts.erase m) nd'.2 fun x hx => (List.mem_erase_of_ne (fun e => nd'.1 (by rw [← e]; exact hx))).mpr (h x (by simp [hx]))
    rw [List.length_erase_of_mem hm] at this
    have := List.length_pos_of_mem hm
    rw [List.length_cons]
    omega
theorem sub_len {ms ts : List Int} (h : isSortSet ts ms) : ms.length ≤ ts.length := by
  have nd := nodup_lt h.1
  exact len_sub nd fun x hx => (h.2 x).mp hx
end Tr
set_option Elab.async false
set_option linter.all false
set_option maxRecDepth 100000
set_option maxHeartbeats 4000000
set_option exponentiation.threshold 3000
namespace Tr
open PySem PySem.Spec PyProof.Rows L2
mutual
def big : PyData → Nat
  | .none => 0
  | .bool _ => 0
  | .int _ => 201
  | .str x => x.cps.size
  | .list xs => bigA xs
  | .tuple xs => bigA xs
  | .dict _ => 0
def bigA : List PyData → Nat
  | [] => 0
  | x :: xs => big x + 1 + bigA xs
end
theorem shal_ints (n : Nat) : ∀ ns : List Int, (ns.map PyData.int).all (shal n) = true := fun ns => by
  rw [List.all_eq_true]
  intro x hx
  obtain ⟨i, _, rfl⟩ := List.mem_map.mp hx
  cases n <;> rfl
end Tr
set_option Elab.async false
set_option linter.all false
set_option maxRecDepth 100000
set_option maxHeartbeats 4000000
namespace Tr
open PySem PySem.Spec L2
theorem eqv_nil (ds : List PyData) : PyData.eqv (.list ds) (.list []) = ds.isEmpty := by cases ds <;> rfl
theorem c_neNil {ds : List PyData} {R : Bool → Prop} (hs : ds.all (shal 29) = true) (h : R (!ds.isEmpty)) : cmpO .ne (.own (ds.map Tv.d)) (.own []) R :=
  ⟨.list ds, .list [], f_own, rfl, by simpa [shal] using hs, rfl, by rw [eqv_nil]; exact h⟩
end Tr
set_option Elab.async false
set_option linter.all false
set_option maxRecDepth 100000
set_option maxHeartbeats 4000000
set_option exponentiation.threshold 3000
namespace Tr
open PySem PySem.Spec PyProof.Rows L2
def sitD (t n e : Int) (ps : List Int) : PyData := .tuple [.int t, .int n, .int e, .tuple (ps.map .int)]
def Sit (pr pk : Int) (d : PyData) : Prop := ∃ (t n e : Int) (ps : List Int), d = sitD t n e ps ∧ 0 ≤ t ∧ t ≤ 100 ∧ 0 ≤ n ∧ n < pr ∧ 0 ≤ e ∧ e < pr ∧ (∀ p ∈ ps, 0 ≤ p ∧ p < pk) ∧ ps.length ≤ 8
def planD (pr pk : Int) (ss : List PyData) : PyData := .tuple [.int pr, .int pk, .tuple ss]
def tripD (p n e : Int) : PyData := .tuple [.int p, .int n, .int e]
def tripsOf : PyData → List PyData
  | .tuple [_, .int n, .int e, .tuple ps] => ps.map fun p => .tuple [p, .int n, .int e]
  | _ => []
theorem trips_sit {t n e : Int} {ps : List Int} : tripsOf (sitD t n e ps) = ps.map fun p => tripD p n e := by
  show (ps.map PyData.int).map _ = _
  rw [List.map_map]
  rfl
/-- a play at the pack p with the pair i -/
def seatAt (i p : Int) : PyData → Bool
  | .tuple [.int q, .int n, .int e] => q == p && (i == n || i == e)
  | _ => false
def seatN (i p : Int) (fs : List PyData) : Nat := (fs.flatMap tripsOf).countP (seatAt i p)
def neS : PyData → Bool
  | .tuple [_, .int n, .int e, _] => !(n == e)
  | _ => false
structure Fit (fs : List PyData) : Prop where
  ne : ∀ s ∈ fs, neS s = true
  one : ∀ i p : Int, seatN i p fs ≤ 1
theorem seat_append (i p : Int) (fs gs : List PyData) : seatN i p (fs ++ gs) = seatN i p fs + seatN i p gs := by
  unfold seatN
  rw [List.flatMap_append, List.countP_append]
theorem seat_cons (i p : Int) (f : PyData) (gs : List PyData) : seatN i p (f :: gs) = seatN i p [f] + seatN i p gs := seat_append i p [f] gs
theorem fit_nil : Fit [] := ⟨fun _ z => (nomatch z), fun i p => Nat.zero_le _⟩
theorem Fit.perm {fs gs : List PyData} (h : Fit fs) (q : gs.Perm fs) : Fit gs :=
  ⟨fun s hs => h.ne s (q.mem_iff.mp hs), fun i p => by
    have := h.one i p
    unfold seatN at this ⊢
    rw [(q.flatMap_right tripsOf).countP_eq]
    exact this⟩
theorem Fit.sub {fs gs : List PyData} (h : Fit fs) (q : gs.Sublist fs) : Fit gs :=
  ⟨fun s hs => h.ne s (q.subset hs), fun i p => by
    refine Nat.le_trans ?_ (h.one i p)
    clear h
    induction q with
    | slnil => exact Nat.le_refl _
    | cons a _ ih =>
      rename_i l1 l2 _
      rw [seat_cons i p a l2]
      omega
    | cons_cons a _ ih =>
      rename_i l1 l2 _
      rw [seat_cons i p a l1, seat_cons i p a l2]
      omega⟩
theorem Fit.sorted {fs : List PyData} (h : Fit fs) : Fit (fs.mergeSort dle) := h.perm (List.mergeSort_perm fs dle)
theorem seat_one (i p t n e : Int) (ps : List Int) : seatN i p [sitD t n e ps] = ps.countP fun q => q == p && (i == n || i == e) := by
  unfold seatN
  rw [List.flatMap_cons, List.flatMap_nil, List.append_nil, trips_sit, List.countP_map]
  rfl
theorem once {ps : List Int} (h : ps.Nodup) (p : Int) : ps.countP (fun q => q == p) ≤ 1 := by
  induction ps with
  | nil => exact Nat.zero_le _
  | cons q ps ih =>
    have h := List.nodup_cons.mp h
    rw [List.countP_cons]
    split
    · rename_i e
      have e := eq_of_beq e
      subst e
      rw [List.countP_eq_zero.mpr fun (u : Int) hu e => h.1 (by rw [← eq_of_beq e]; exact hu)]
      exact Nat.le_refl _
    · exact ih h.2
theorem seat_le {i p t n e : Int} {ps : List Int} (h : ps.Nodup) : seatN i p [sitD t n e ps] ≤ 1 := by
  rw [seat_one]
  refine Nat.le_trans (List.countP_mono_left (q := fun q => q == p) fun q _ hq => ?_) ?_
  · simp only [Bool.and_eq_true] at hq
    exact hq.1
  · exact once h p
/-- no pair sits at both with one pack -/
def Apart (s x : PyData) : Prop := ∀ i p : Int, seatN i p [s] = 0 ∨ seatN i p [x] = 0
theorem apart_sides {t n e t' n' e' : Int} {ps ps' : List Int} (g1 : (n == n' || e == n') = false) (g2 : (n == e' || e == e') = false) : Apart (sitD t' n' e' ps') (sitD t n e ps) := fun i p => by
  have h1 : (n' == n || n' == e) = false := by
    simp only [Bool.or_eq_false_iff, beq_eq_false_iff_ne] at g1 ⊢
    exact ⟨fun z => g1.1 z.symm, fun z => g1.2 z.symm⟩
  have h2 : (e' == n || e' == e) = false := by
    simp only [Bool.or_eq_false_iff, beq_eq_false_iff_ne] at g2 ⊢
    exact ⟨fun z => g2.1 z.symm, fun z => g2.2 z.symm⟩
  rw [seat_one, seat_one, List.countP_eq_zero, List.countP_eq_zero]
  by_cases h : i = n' ∨ i = e'
  · refine .inr fun q _ => ?_
    rcases h with rfl | rfl
    · simp [h1]
    · simp [h2]
  · refine .inl fun q _ => ?_
    have : (i == n' || i == e') = false := by
      simp only [Bool.or_eq_false_iff, beq_eq_false_iff_ne]
      exact ⟨fun z => h (.inl z), fun z => h (.inr z)⟩
    simp [this]
theorem apart_packs {t n e t' n' e' : Int} {ps ps' : List Int} (h : ∀ p ∈ ps', p ∉ ps) : Apart (sitD t' n' e' ps') (sitD t n e ps) := fun i p => by
  rw [seat_one, seat_one, List.countP_eq_zero, List.countP_eq_zero]
  by_cases hp : p ∈ ps'
  · refine .inr fun q hq => ?_
    have : (q == p) = false := beq_eq_false_iff_ne.mpr fun z => h p hp (z ▸ hq)
    simp [this]
  · refine .inl fun q hq => ?_
    have : (q == p) = false := beq_eq_false_iff_ne.mpr fun z => hp (z ▸ hq)
    simp [this]
theorem Fit.add {fs : List PyData} {t n e : Int} {ps : List Int} (h : Fit fs) (hne : n ≠ e) (hn : ps.Nodup) (ha : ∀ x ∈ fs, Apart (sitD t n e ps) x) : Fit (fs ++ [sitD t n e ps]) :=
  ⟨fun s hs => by
    rcases List.mem_append.mp hs with z | z
    · exact h.ne s z
    · rw [List.mem_singleton.mp z]
      show (!(n == e)) = true
      simpa using hne, fun i p => by
    rw [seat_append]
    have h1 := h.one i p
    have h2 : seatN i p [sitD t n e ps] ≤ 1 := seat_le hn
    by_cases h3 : seatN i p [sitD t n e ps] = 0
    · omega
    · have h4 : ∀ gs : List PyData, (∀ x ∈ gs, Apart (sitD t n e ps) x) → seatN i p gs = 0 := fun gs hg => by
        induction gs with
        | nil => rfl
        | cons x gs ih =>
          rw [seat_cons, ih fun y hy => hg y (by simp [hy])]
          have := hg x (by simp) i p
          omega
      rw [h4 fs ha]
      omega⟩
/-- the lesser side first -/
def norm : PyData → PyData
  | .tuple [t, .int n, .int e, ps] => if n ≤ e then .tuple [t, .int n, .int e, ps] else .tuple [t, .int e, .int n, ps]
  | d => d
theorem norm_swap (t n e : Int) (ps : List Int) : norm (sitD t n e ps) = norm (sitD t e n ps) := by
  unfold norm sitD
  show (if n ≤ e then _ else _) = (if e ≤ n then _ else _)
  by_cases h : n ≤ e
  · by_cases h' : e ≤ n
    · have : n = e := by omega
      subst this
      rfl
    · rw [if_pos h, if_neg h']
  · rw [if_neg h, if_pos (by omega)]
theorem norm_ne (d : PyData) : neS (norm d) = neS d := by
  unfold norm
  split
  · split
    · rfl
    · show (!(_ == _)) = (!(_ == _))
      rw [Bool.beq_comm]
  · rfl
theorem norm_seat (i p : Int) (d : PyData) : (tripsOf (norm d)).countP (seatAt i p) = (tripsOf d).countP (seatAt i p) := by
  unfold norm
  split
  · rename_i t n e ps
    split
    · rfl
    · cases ps with
      | tuple qs =>
        show (qs.map fun q => PyData.tuple [q, .int e, .int n]).countP (seatAt i p) = (qs.map fun q => PyData.tuple [q, .int n, .int e]).countP (seatAt i p)
        rw [List.countP_map, List.countP_map]
        congr 1
        funext q
        show seatAt i p (.tuple [q, .int e, .int n]) = seatAt i p (.tuple [q, .int n, .int e])
        cases q <;> first | rfl | (show (_ && (_ || _)) = (_ && (_ || _)); rw [Bool.or_comm])
      | _ => rfl
  · rfl
theorem seat_norm (i p : Int) : ∀ fs : List PyData, seatN i p (fs.map norm) = seatN i p fs
  | [] => rfl
  | f :: fs => by
    rw [List.map_cons, seat_cons, seat_cons i p f, seat_norm i p fs]
    congr 1
    unfold seatN
    rw [List.flatMap_cons, List.flatMap_nil, List.append_nil, List.flatMap_cons, List.flatMap_nil, List.append_nil]
    exact norm_seat i p f
theorem Fit.norms {fs gs : List PyData} (h : Fit fs) (e : gs.map norm = fs.map norm) : Fit gs :=
  ⟨fun s hs => by
    have : norm s ∈ fs.map norm := e ▸ List.mem_map_of_mem hs
    obtain ⟨x, hx, hxs⟩ := List.mem_map.mp this
    rw [← norm_ne, ← hxs, norm_ne]
    exact h.ne x hx, fun i p => by
    rw [← seat_norm, e, seat_norm]
    exact h.one i p⟩
/-- looked at by reckoning -/
def fitB (pr pk : Nat) (fs : List PyData) : Bool := fs.all neS && (List.range pr).all fun i => (List.range pk).all fun p => decide (seatN (i : Nat) (p : Nat) fs ≤ 1)
theorem seat_out {pr pk i p : Int} {fs : List PyData} (h : ∀ s ∈ fs, Sit pr pk s) (hi : ¬ (0 ≤ i ∧ i < pr ∧ 0 ≤ p ∧ p < pk)) : seatN i p fs = 0 := by
  induction fs with
  | nil => rfl
  | cons s fs ih =>
    rw [seat_cons, ih fun x hx => h x (by simp [hx])]
    obtain ⟨t, n, e, ps, rfl, a1, a2, a3, a4, a5, a6, a7, a8⟩ := h s (by simp)
    rw [seat_one, List.countP_eq_zero.mpr]
    intro q hq
    have := a7 q hq
    simp only [Bool.and_eq_true, Bool.or_eq_true, beq_iff_eq, not_and]
    intro hqp hs
    omega
theorem fit_of {pr pk : Int} {fs : List PyData} (h : ∀ s ∈ fs, Sit pr pk s) (b : fitB pr.toNat pk.toNat fs = true) : Fit fs := by
  unfold fitB at b
  rw [Bool.and_eq_true] at b
  refine ⟨fun s hs => List.all_eq_true.mp b.1 s hs, fun i p => ?_⟩
  by_cases hi : 0 ≤ i ∧ i < pr ∧ 0 ≤ p ∧ p < pk
  · have h1 := List.all_eq_true.mp b.2 i.toNat (List.mem_range.mpr (by omega))
    have h2 := of_decide_eq_true (List.all_eq_true.mp h1 p.toNat (List.mem_range.mpr (by omega)))
    rw [Int.toNat_of_nonneg hi.1, Int.toNat_of_nonneg hi.2.2.1] at h2
    exact h2
  · rw [seat_out h hi]
    exact Nat.zero_le _
theorem flat_len {α β : Type} (f : α → List β) (n : Nat) (h : ∀ a, (f a).length ≤ n) : ∀ l : List α, (l.flatMap f).length ≤ n * l.length
  | [] => Nat.zero_le _
  | x :: l => by
    rw [List.flatMap_cons, List.length_append, List.length_cons, Nat.mul_succ]
    have h1 := h x
    have h2 := flat_len f n h l
    omega
def ringRow (sz : Int) (t m : Nat) : List PyData := sitD t (2 * sz - 1) t [(t : Int)] :: (List.range m).map fun j : Nat => sitD t (((t : Int) + (1 + j)) % (2 * sz - 1)) (((t : Int) - (1 + j)) % (2 * sz - 1)) [(t : Int)]
def ringL (sz : Int) (k : Nat) : List PyData := (List.range k).flatMap fun t => ringRow sz t (sz - 1).toNat
def movRow (sz : Int) (t m : Nat) : List PyData := (List.range m).map fun j : Nat => sitD t j (sz + ((j : Int) + t) % sz) [(t : Int)]
def movL (sz : Int) (k : Nat) : List PyData := (List.range k).flatMap fun t => movRow sz t sz.toNat
theorem ring_fit {sz : Int} (h1 : 2 ≤ sz) (h2 : sz ≤ 5) : fitB (2 * sz).toNat (2 * sz - 1).toNat (ringL sz (2 * sz - 1).toNat) = true := by
  have : sz = 2 ∨ sz = 3 ∨ sz = 4 ∨ sz = 5 := by omega
  rcases this with rfl | rfl | rfl | rfl <;> decide +kernel
theorem mov_fit {sz mn : Int} (h1 : 2 ≤ sz) (h2 : sz ≤ 5) (h3 : 1 ≤ mn) (h4 : mn ≤ sz) : fitB (2 * sz).toNat mn.toNat (movL sz mn.toNat) = true := by
  have : sz = 2 ∨ sz = 3 ∨ sz = 4 ∨ sz = 5 := by omega
  have h5 : mn = 1 ∨ mn = 2 ∨ mn = 3 ∨ mn = 4 ∨ mn = 5 := by omega
  rcases this with rfl | rfl | rfl | rfl <;> rcases h5 with rfl | rfl | rfl | rfl | rfl <;> first | (exfalso; omega) | decide +kernel
end Tr
set_option Elab.async false
set_option linter.all false
set_option maxRecDepth 100000
set_option maxHeartbeats 4000000
set_option exponentiation.threshold 3000
namespace Tr
open PySem PySem.Spec PyProof.Rows L2
theorem dle_total (a b : PyData) : (dle a b || dle b a) = true := by
  unfold dle
  cases h1 : PySem.W.dataLt b a with
  | false => rfl
  | true =>
    cases h2 : PySem.W.dataLt a b with
    | false => rfl
    | true =>
      have h3 : PySem.W.dataLt a a = true := lex_trans (O := itemOrd) _ _ _ h2 h1
      rw [show PySem.W.dataLt a a = false from lex_irrefl _] at h3
      cases h3
theorem dle_trans (a b c : PyData) (h1 : dle a b = true) (h2 : dle b c = true) : dle a c = true := by
  unfold dle at h1 h2 ⊢
  cases h3 : PySem.W.dataLt c a with
  | false => rfl
  | true =>
    exfalso
    have h1 : PySem.W.dataLt b a = false := by simpa using h1
    have h2 : PySem.W.dataLt c b = false := by simpa using h2
    cases h4 : PySem.W.dataLt a b with
    | true =>
      have h5 : PySem.W.dataLt c b = true := lex_trans (O := itemOrd) _ _ _ h3 h4
      rw [h2] at h5
      cases h5
    | false =>
      have h5 := lex_total (O := itemOrd) _ _ h4 h1
      have h6 : PySem.W.dataLt c b = PySem.W.dataLt c a := by
        show lexLt _ _ _ = lexLt _ _ _
        rw [h5]
      rw [h2, h3] at h6
      cases h6
theorem sort_srt (l : List PyData) : (l.mergeSort dle).Pairwise fun a b => dle a b = true := List.pairwise_mergeSort dle_trans dle_total l
theorem eqv_intsD : ∀ A B : List Int, PyData.eqvAll (A.map .int) (B.map .int) = (A == B)
  | [], [] => rfl
  | [], b :: B => rfl
  | a :: A, [] => rfl
  | a :: A, b :: B => by
    have : PyData.eqvAll ((a :: A).map .int) ((b :: B).map .int) = ((a == b) && PyData.eqvAll (A.map .int) (B.map .int)) := rfl
    rw [this, eqv_intsD A B]
    rfl
theorem alike_intsD : ∀ xs ys : List Int, PySem.W.alikeAll (xs.map .int) (ys.map .int) = true
  | [], _ => by rw [List.map_nil, PySem.W.alikeAll]
  | _ :: _, [] => by rw [List.map_nil, List.map_cons, PySem.W.alikeAll]
  | x :: xs, y :: ys => by
    rw [List.map_cons, List.map_cons, PySem.W.alikeAll, alike_intsD xs ys]
    simp [PySem.W.alike]
theorem row_ltD (ps ps' : List Int) : PySem.W.dataLt (.tuple (ps.map .int)) (.tuple (ps'.map .int)) = decide (ps < ps') := by
  rw [PySem.W.dataLt_tuple]
  exact PySem.W.dataLt_ints ps ps'
theorem sit_ltD (t n e t' n' e' : Int) (ps ps' : List Int) : PySem.W.dataLt (sitD t n e ps) (sitD t' n' e' ps') = if t = t' then (if n = n' then (if e = e' then decide (ps < ps') else decide (e < e')) else decide (n < n')) else decide (t < t') := by
  have ai : ∀ x y : Int, PySem.W.alike (.int x) (.int y) = true := fun x y => by simp [PySem.W.alike]
  have at_ : PySem.W.alike (.tuple (ps.map .int)) (.tuple (ps'.map .int)) = true := by
    rw [PySem.W.alike]
    exact alike_intsD _ _
  have e0 : PyProof.Rows.lexLt itemOrd (PySem.W.keyToksAll []) (PySem.W.keyToksAll []) = false := lex_irrefl _
  have ee : PyData.eqv (.tuple (ps.map .int)) (.tuple (ps'.map .int)) = (ps == ps') := eqv_intsD ps ps'
  unfold sitD
  rw [PySem.W.dataLt_tuple, PySem.W.dataLt_cons (ai _ _), PySem.W.dataLt_cons (ai _ _), PySem.W.dataLt_cons (ai _ _), PySem.W.dataLt_cons at_, e0, row_ltD, PySem.W.dataLt_int, PySem.W.dataLt_int, PySem.W.dataLt_int, ee]
  simp only [PyData.eqv, beq_iff_eq]
  by_cases h : ps = ps'
  · subst h
    have hl : decide (ps < ps) = false := decide_eq_false (List.lt_irrefl ps)
    by_cases h2 : e = e' <;> simp [h2, hl]
  · simp [h]
theorem sit_antisymm {t n e t' n' e' : Int} {ps ps' : List Int} (h1 : dle (sitD t n e ps) (sitD t' n' e' ps') = true) (h2 : dle (sitD t' n' e' ps') (sitD t n e ps) = true) : sitD t n e ps = sitD t' n' e' ps' := by
  unfold dle at h1 h2
  rw [sit_ltD] at h1 h2
  by_cases a1 : t = t'
  · subst a1
    by_cases a2 : n = n'
    · subst a2
      by_cases a3 : e = e'
      · subst a3
        simp at h1 h2
        rw [List.le_antisymm h2 h1]
      · have a3' : ¬ e' = e := fun z => a3 z.symm
        simp [a3, a3'] at h1 h2
        omega
    · have a2' : ¬ n' = n := fun z => a2 z.symm
      simp [a2, a2'] at h1 h2
      omega
  · have a1' : ¬ t' = t := fun z => a1 z.symm
    simp [a1, a1'] at h1 h2
    omega
end Tr
set_option Elab.async false
set_option linter.all false
set_option maxRecDepth 100000
set_option maxHeartbeats 4000000
set_option exponentiation.threshold 3000
namespace Tr
open PySem PySem.Spec PyProof.Rows L2
structure PlanOk (pr pk : Int) (ss : List PyData) : Prop where
  p1 : 2 ≤ pr
  p2 : pr ≤ 10
  k1 : 1 ≤ pk
  k2 : pk ≤ 20
  len : ss.length ≤ 60
  sit : ∀ s ∈ ss, Sit pr pk s
  fit : Fit ss
  srt : ss.Pairwise fun a b => dle a b = true
theorem alike_ints : ∀ a b : List Int, PySem.W.alikeAll (a.map .int) (b.map .int) = true
  | [], b => by simp [PySem.W.alikeAll]
  | x :: a, [] => by simp [PySem.W.alikeAll]
  | x :: a, y :: b => by
    show PySem.W.alikeAll (.int x :: a.map .int) (.int y :: b.map .int) = true
    rw [PySem.W.alikeAll, alike_ints a b]
    simp [PySem.W.alike]
theorem alike_sit {pr pk pr' pk' : Int} {a b : PyData} (h : Sit pr pk a) (h' : Sit pr' pk' b) : PySem.W.alike a b = true := by
  obtain ⟨t, n, e, ps, rfl, _⟩ := h
  obtain ⟨t', n', e', ps', rfl, _⟩ := h'
  simp [sitD, PySem.W.alike, PySem.W.alikeAll, alike_ints]
theorem shal_sit {pr pk : Int} {d : PyData} (h : Sit pr pk d) (n : Nat) : shal (n + 2) d = true := by
  obtain ⟨t, m, e, ps, rfl, _⟩ := h
  have := shal_ints n ps
  simp only [sitD, shal, List.all_cons, List.all_nil, this, Bool.and_self]
theorem sits_ok {pr pk : Int} {ss : List PyData} (h : ∀ s ∈ ss, Sit pr pk s) : SortOk ss where
  al := fun a ha b hb => alike_sit (h a ha) (h b hb)
  so := .inl fun d hd => by
    obtain ⟨t, n, e, ps, rfl, _⟩ := h d hd
    exact ⟨_, _, rfl⟩
  sh := fun x hx => shal_sit (h x hx) 28
theorem b_sortedD {ds : List PyData} {R : Tv → Prop} (h : SortOk ds) (q : R (.own ((ds.mergeSort dle).map .d))) : bltO .sorted [.d (.list ds)] R := ⟨_, _, ds, rfl, rfl, rfl, h, q⟩
theorem b_listT {ds : List PyData} {R : Tv → Prop} : bltO .list [.d (.tuple ds)] R = R (.own (ds.map .d)) := by
  refine propext ⟨fun ⟨x, d, xs, h1, h2, h3, h⟩ => ?_, fun h => ⟨_, _, _, rfl, rfl, rfl, h⟩⟩
  cases h1
  cases h2
  cases h3
  exact h
theorem c_inT {a : PyData} {xs : List PyData} {R : Bool → Prop} (h1 : shal 30 a = true) (h2 : xs.all (shal 29) = true) (q : R (xs.any fun y => PyData.eqv y a)) : cmpO .inn (.d a) (.d (.tuple xs)) R :=
  ⟨_, _, rfl, rfl, h1, by simpa [shal] using h2, q⟩
theorem fz1 {a : PyData} : frzs [.d a] = some [a] := rfl
theorem fz2 {a b : PyData} : frzs [.d a, .d b] = some [a, b] := rfl
theorem fz3 {a b c : PyData} : frzs [.d a, .d b, .d c] = some [a, b, c] := rfl
theorem fz4 {a b c d : PyData} : frzs [.d a, .d b, .d c, .d d] = some [a, b, c, d] := rfl
theorem at3 {α : Type} {x y z u : α} {xs : List α} : atI (x :: y :: z :: u :: xs) 3 = some u := atI_nat (j := 3) rfl
theorem cut13 {α : Type} {a b c d : α} : cutD [a, b, c, d] (some 1) (some 3) = [b, c] := rfl
theorem s_tup {xs : List PyData} {lo hi : Option Int} {R : Tv → Prop} : sliceO (.d (.tuple xs)) lo hi R = R (.d (.tuple (cutD xs lo hi))) := rfl
def bCanSit : SL := (.cons (.for_ (.name 2) (.seq (.sim (.var 1)))
  (.cons (.ite (.or_ (.cons (.cmp .inn (.sim (.idx (.var 0) (.int 1))) (.slice (.sim (.var 2)) (.som (.sim (.int 1))) (.som (.sim (.int 3))))) (.cons (.cmp .inn (.sim (.idx (.var 0) (.int 2))) (.slice (.sim (.var 2)) (.som (.sim (.int 1))) (.som (.sim (.int 3))))) .nil)))
  (.cons (.ite (.or_ (.cons (.cmp .eq (.sim (.idx (.var 0) (.int 0))) (.sim (.idx (.var 2) (.int 0)))) (.cons (.cmp .ne (.lc (.sim (.var 3)) (.name 3) (.seq (.sim (.idx (.var 0) (.int 3)))) (.som (.cmp .inn (.sim (.var 3)) (.sim (.idx (.var 2) (.int 3))))) [3]) (.lst .nil)) .nil)))
  (.cons (.ret (.sim (.bl false)))
  .nil)
  .nil)
  .nil)
  .nil)
  .nil)
  [2])
  (.cons (.ret (.sim (.bl true)))
  .nil))
theorem shal_int2 (k : Nat) (a b : Int) : [PyData.int a, PyData.int b].all (shal k) = true := shal_ints k [a, b]
theorem shal_int (k : Nat) (a : Int) : shal k (.int a) = true := by cases k <;> rfl
theorem any_in (a n e : Int) : ([PyData.int n, PyData.int e].any fun y => PyData.eqv y (.int a)) = (n == a || e == a) := by
  show ((n == a) || ((e == a) || false)) = _
  rw [Bool.or_false]
theorem any_ints (a : Int) (ps : List Int) : ((ps.map PyData.int).any fun y => PyData.eqv y (.int a)) = decide (a ∈ ps) := by
  induction ps with
  | nil => rfl
  | cons p ps ih =>
    show ((p == a) || _) = _
    rw [ih]
    by_cases h : p = a
    · subst h
      simp
    · have : a ≠ p := fun z => h z.symm
      simp [h, this]
theorem filter_st {α : Type} (f : α → Bool) {l : List α} {k : Nat} {x : α} (h : l[k]? = some x) (e : f x = true) : (l.take (k + 1)).filter f = (l.take k).filter f ++ [x] := by
  rw [take_snoc h, List.filter_append]
  congr 1
  simp [e]
theorem filter_sf {α : Type} (f : α → Bool) {l : List α} {k : Nat} {x : α} (h : l[k]? = some x) (e : f x = false) : (l.take (k + 1)).filter f = (l.take k).filter f := by
  rw [take_snoc h, List.filter_append]
  simp [e]
theorem take_mem {α : Type} {P : α → Prop} {l : List α} {k : Nat} {x : α} (h : ∀ y ∈ l.take k, P y) (e : l[k]? = some x) (hx : P x) : ∀ y ∈ l.take (k + 1), P y := fun y hy => by
  rw [take_snoc e] at hy
  rcases List.mem_append.mp hy with z | z
  · exact h y z
  · rw [List.mem_singleton.mp z]
    exact hx
def bMoving3 : SL := (.cons (.set 2 (.lst .nil))
  (.cons (.for_ (.name 3) (.rng .non (.sim (.var 1)))
  (.cons (.ext 2 (.lc (.tup (.cons (.sim (.var 3)) (.cons (.sim (.var 4)) (.cons (.bin .add (.sim (.var 0)) (.bin .mod (.bltv .int (.bin .add (.sim (.var 4)) (.sim (.var 3)))) (.sim (.var 0)))) (.cons (.tup (.cons (.sim (.var 3)) .nil)) .nil))))) (.name 4) (.rng .non (.sim (.var 0))) .non [4]))
  .nil)
  [3])
  (.cons (.ret (.tup (.cons (.bin .mul (.sim (.int 2)) (.sim (.var 0))) (.cons (.sim (.var 1)) (.cons (.blt1 .tuple (.blt1 .sorted (.sim (.var 2)))) .nil)))))
  .nil)))
def spMoving3 : FS := fun xs Q => ∃ sz mn : Int, xs = [.d (.int sz), .d (.int mn)] ∧ 2 ≤ sz ∧ sz ≤ 5 ∧ 1 ≤ mn ∧ mn ≤ sz ∧ ∀ ss rest, PlanOk (2 * sz) mn ss → ss = (movL sz mn.toNat).mergeSort dle → Q (.d (planD (2 * sz) mn ss)) rest
theorem plan_sorted {pr pk : Int} {fs : List PyData} (p1 : 2 ≤ pr) (p2 : pr ≤ 10) (k1 : 1 ≤ pk) (k2 : pk ≤ 20) (len : fs.length ≤ 60) (h : ∀ f ∈ fs, Sit pr pk f) (hf : Fit fs) : PlanOk pr pk (fs.mergeSort dle) :=
  ⟨p1, p2, k1, k2, by rw [List.length_mergeSort]; exact len, fun s hs => h s (List.mem_mergeSort.mp hs), hf.sorted, sort_srt _⟩
theorem ok_moving3 {Γ : Gam} {Φ : Phi} : ∀ xs Q, spMoving3 xs Q → fsOf Γ Φ 2 5 bMoving3 xs Q := by
  rintro xs Q ⟨sz, mn, rfl, h1, h2, h3, h4, hq⟩
  refine ⟨rfl, ?_⟩
  rw [bMoving3, r_cons]
  simp_arith
  rw [r_cons]
  simp_arith
  have hML : ∀ k : Nat, (k : Int) ≤ mn → (movL sz k).length ≤ 5 * k ∧ ∀ f ∈ movL sz k, Sit (2 * sz) mn f := fun k hk => by
    refine ⟨?_, fun f hf => ?_⟩
    · have := flat_len (fun t => movRow sz t sz.toNat) 5 (fun t => by unfold movRow; rw [List.length_map, List.length_range]; omega) (List.range k)
      rw [List.length_range] at this
      exact this
    · obtain ⟨t, ht, hf⟩ := List.mem_flatMap.mp hf
      obtain ⟨j, hj, rfl⟩ := List.mem_map.mp hf
      have ht := List.mem_range.mp ht
      have hj := List.mem_range.mp hj
      have m1 := Int.emod_nonneg ((j : Int) + t) (show sz ≠ 0 by omega)
      have m2 := Int.emod_lt_of_pos ((j : Int) + t) (show 0 < sz by omega)
      exact ⟨_, _, _, _, rfl, by omega, by omega, by omega, by omega, by omega, by omega, fun p hp => by
        have e := List.mem_singleton.mp hp
        omega, by simp⟩
  refine ⟨by decide, by decide, by omega, by omega, fun k ρ => ρ = [some (.d (.int sz)), some (.d (.int mn)), some (.own ((movL sz k).map .d)), none, none], rfl, ?_, ?_⟩
  · rintro k x ρ2 hx rfl
    have hk := (List.getElem?_eq_some_iff.mp hx).1
    simp only [List.length_map, List.length_range] at hk
    simp only [List.getElem?_map, List.getElem?_range hk, Option.map_some, Option.some.injEq] at hx
    subst hx
    have hl := (hML k (by omega)).1
    simp_arith only
    refine ⟨by decide, by decide, by omega, by omega, fun j acc ρ => acc = (movRow sz k j).map .d ∧ ρ = [some (.d (.int sz)), some (.d (.int mn)), some (.own ((movL sz k).map .d)), some (.d (.int k)), none], ⟨rfl, rfl⟩, ?_, ?_⟩
    · rintro j y acc ρ2 hy ⟨rfl, rfl⟩
      have hj := (List.getElem?_eq_some_iff.mp hy).1
      simp only [List.length_map, List.length_range] at hj
      simp only [List.getElem?_map, List.getElem?_range hj, Option.map_some, Option.some.injEq] at hy
      subst hy
      simp_arith only [b_int, fz1, fz4]
      refine ⟨fun _ => ⟨by omega, ?_, ?_⟩, fun z => (nomatch z)⟩
      · unfold movRow
        rw [List.length_map, List.length_map, List.length_range]
        exact small64 (by omega)
      · unfold movRow
        rw [List.range_succ, List.map_append, List.map_append]
        rfl
    · rintro acc ρ2 ⟨rfl, rfl⟩
      simp_arith only [List.length_map, List.length_range, f_own]
      have e1 : (movRow sz k (sz - 0).toNat).length ≤ 5 := by
        unfold movRow
        rw [List.length_map, List.length_range]
        omega
      refine ⟨?_, ?_⟩
      · rw [sizeLine_eq]
        simp only [Int.sub_zero] at e1
        omega
      · unfold movL
        rw [List.range_succ, List.flatMap_append, List.flatMap_cons, List.flatMap_nil, List.append_nil, List.map_append]
  · rintro ρ2 rfl
    simp only [List.length_map, List.length_range]
    have hm : (mn - 0).toNat = mn.toNat := by rw [Int.sub_zero]
    have hML := hML mn.toNat (by omega)
    have hfit := fit_of hML.2 (mov_fit h1 h2 h3 h4)
    simp_arith only [hm, f_own]
    refine ⟨m_small' (by decide) (by decide), b_sortedD (sits_ok hML.2) ?_⟩
    simp_arith only [b_tuple, fz3]
    exact hq _ _ (plan_sorted (by omega) (by omega) h3 (by omega) (by omega) hML.2 hfit) rfl
end Tr
set_option Elab.async false
set_option linter.all false
set_option maxRecDepth 100000
set_option maxHeartbeats 4000000
set_option exponentiation.threshold 3000
namespace Tr
open PySem PySem.Spec PyProof.Rows L2
def bRing3 : SL := (.cons (.par [3, 4] (.cons (.bin .sub (.bin .mul (.sim (.int 2)) (.sim (.var 0))) (.sim (.int 1))) (.cons (.lst .nil) .nil)))
  (.cons (.for_ (.name 2) (.rng .non (.sim (.var 3)))
  (.cons (.app 4 (.tup (.cons (.sim (.var 2)) (.cons (.sim (.var 3)) (.cons (.sim (.var 2)) (.cons (.tup (.cons (.sim (.var 2)) .nil)) .nil))))))
  (.cons (.for_ (.name 5) (.rng (.som (.sim (.int 1))) (.sim (.var 0)))
  (.cons (.set 6 (.lst (.cons (.bin .mod (.bltv .int (.bin .add (.sim (.var 2)) (.sim (.var 5)))) (.sim (.var 3))) (.cons (.bin .mod (.bltv .int (.bin .sub (.sim (.var 2)) (.sim (.var 5)))) (.sim (.var 3))) .nil))))
  (.cons (.set 6 (.ite (.cmp .eq (.bin .mod (.bltv .int (.bin .fdiv (.sim (.var 1)) (.idx (.lst (.cons (.sim (.int 1)) (.cons (.sim (.int 2)) (.cons (.sim (.int 4)) (.cons (.sim (.int 8)) (.cons (.sim (.int 16)) .nil)))))) (.sim (.var 5))))) (.sim (.int 2))) (.sim (.int 0))) (.sim (.var 6)) (.rev (.sim (.var 6)))))
  (.cons (.app 4 (.tup (.cons (.sim (.var 2)) (.cons (.sim (.idx (.var 6) (.int 0))) (.cons (.sim (.idx (.var 6) (.int 1))) (.cons (.tup (.cons (.sim (.var 2)) .nil)) .nil))))))
  .nil)))
  [5, 6])
  .nil))
  [2, 5, 6])
  (.cons (.ret (.tup (.cons (.bin .add (.sim (.var 3)) (.sim (.int 1))) (.cons (.sim (.var 3)) (.cons (.blt1 .tuple (.blt1 .sorted (.sim (.var 4)))) .nil)))))
  .nil)))
theorem fo2 {a b : PyData} : (Tv.own [.d a, .d b]).frz = some (.list [a, b]) := rfl
theorem rev_d {xs : List PyData} {R : Tv → Prop} : revO (.d (.list xs)) R = R (.own (xs.reverse.map .d)) := by
  refine propext ⟨fun ⟨ys, h1, h⟩ => ?_, fun h => ⟨_, rfl, h⟩⟩
  cases h1
  exact h
theorem sides {j : Nat} (h : j < 4) : ∃ q : Int, atI [Tv.d (.int 1), Tv.d (.int 2), Tv.d (.int 4), Tv.d (.int 8), Tv.d (.int 16)] (1 + (j : Int)) = some (.d (.int q)) ∧ 1 ≤ q ∧ q ≤ 16 := by
  have e : ((1 + j : Nat) : Int) = 1 + (j : Int) := by omega
  rw [← e]
  match j, h with
  | 0, _ => exact ⟨2, atI_nat rfl, by decide, by decide⟩
  | 1, _ => exact ⟨4, atI_nat rfl, by decide, by decide⟩
  | 2, _ => exact ⟨8, atI_nat rfl, by decide, by decide⟩
  | 3, _ => exact ⟨16, atI_nat rfl, by decide, by decide⟩
end Tr
set_option Elab.async false
set_option linter.all false
set_option maxRecDepth 100000
set_option maxHeartbeats 4000000
set_option exponentiation.threshold 3000
namespace Tr
open PySem PySem.Spec PyProof.Rows L2
def bDrawn3 : SL := (.cons (.par [3, 4, 5] (.cons (.bin .add (.sim (.int 2)) (.call "_law_take" (.cons (.sim (.var 0)) (.cons (.bin .sub (.sim (.var 1)) (.sim (.int 1))) .nil)))) (.cons (.bin .add (.sim (.int 1)) (.call "_law_take" (.cons (.sim (.var 0)) (.cons (.sim (.int 5)) .nil)))) (.cons (.lst .nil) .nil))))
  (.cons (.for_ (.name 2) (.rng .non (.call "_law_take" (.cons (.sim (.var 0)) (.cons (.sim (.int 13)) .nil))))
  (.cons (.set 6 (.call "_law_take" (.cons (.sim (.var 0)) (.cons (.sim (.var 3)) .nil))))
  (.cons (.set 7 (.bin .mod (.bltv .int (.bin .add (.bin .add (.sim (.var 6)) (.sim (.int 1))) (.call "_law_take" (.cons (.sim (.var 0)) (.cons (.bin .sub (.sim (.var 3)) (.sim (.int 1))) .nil))))) (.sim (.var 3))))
  (.cons (.set 8 (.blt1 .tuple (.sortset (.lc (.call "_law_take" (.cons (.sim (.var 0)) (.cons (.sim (.var 4)) .nil))) (.name 10) (.rng .non (.bin .add (.sim (.int 1)) (.bin .fdiv (.call "_law_take" (.cons (.sim (.var 0)) (.cons (.sim (.int 3)) .nil))) (.sim (.int 2))))) .non [10]))))
  (.cons (.set 9 (.tup (.cons (.call "_law_take" (.cons (.sim (.var 0)) (.cons (.sim (.int 6)) .nil))) (.cons (.sim (.var 6)) (.cons (.sim (.var 7)) (.cons (.sim (.var 8)) .nil))))))
  (.cons (.ite (.callL "_law_can_sit" [(.var 9), (.var 5)])
  (.cons (.app 5 (.sim (.var 9)))
  .nil)
  .nil)
  .nil)))))
  [2, 6, 7, 8, 9])
  (.cons (.ret (.tup (.cons (.sim (.var 3)) (.cons (.sim (.var 4)) (.cons (.blt1 .tuple (.blt1 .sorted (.sim (.var 5)))) .nil)))))
  .nil)))
theorem lt_big {m : Int} (h : m < 1000) : m < 2 ^ 2000 := Int.lt_trans h (by decide)
theorem args1 {x : PyData} : argTs [.d x] = some [.d x] := rfl
theorem args2 {x : PyData} {ds : List PyData} : argTs [.d x, .own (ds.map .d)] = some [.d x, .d (.list ds)] := by
  simp only [argTs, argT, f_own, Option.map_some]
end Tr
set_option Elab.async false
set_option linter.all false
set_option maxRecDepth 100000
set_option maxHeartbeats 4000000
set_option exponentiation.threshold 3000
namespace Tr
open PySem PySem.Spec PyProof.Rows L2
def bPlanV : SL := (.cons (.ret (.tup (.cons (.sim (.idx (.var 3) (.int 0))) (.cons (.sim (.idx (.var 3) (.int 1))) (.cons (.blt1 .tuple (.blt1 .sorted (.sim (.var 4)))) .nil)))))
  .nil)
def bPlanU : SL := (.cons (.ite (.cmp .eq (.call "_law_take" (.cons (.sim (.var 0)) (.cons (.sim (.int 3)) .nil))) (.sim (.int 0)))
  (.cons (.set 4 (.lc (.ite (.cmp .eq (.call "_law_take" (.cons (.sim (.var 0)) (.cons (.sim (.int 3)) .nil))) (.sim (.int 0))) (.tup (.cons (.sim (.idx (.var 6) (.int 0))) (.cons (.sim (.idx (.var 6) (.int 2))) (.cons (.sim (.idx (.var 6) (.int 1))) (.cons (.sim (.idx (.var 6) (.int 3))) .nil))))) (.sim (.var 6))) (.name 6) (.seq (.sim (.var 4))) .non [6]))
  .nil)
  .nil)
  bPlanV)
def bPlanT : SL := (.cons (.set 4 (.blt1 .list (.sim (.idx (.var 3) (.int 2)))))
  (.cons (.ite (.and_ (.cons (.cmp .ne (.sim (.var 4)) (.lst .nil)) (.cons (.cmp .eq (.call "_law_take" (.cons (.sim (.var 0)) (.cons (.sim (.int 4)) .nil))) (.sim (.int 0))) .nil)))
  (.cons (.expr (.pop 4 (.call "_law_take" (.cons (.sim (.var 0)) (.cons (.sim (.len (.var 4))) .nil)))))
  .nil)
  .nil)
  bPlanU))
def bPlanM : SL := (.cons (.ite (.and_ (.cons (.cmp .eq (.sim (.var 2)) (.sim (.int 2))) (.cons (.cmp .gt (.sim (.var 1)) (.sim (.int 3))) .nil)))
  (.cons (.set 5 (.bin .add (.sim (.int 2)) (.call "_law_take" (.cons (.sim (.var 0)) (.cons (.bin .sub (.bin .fdiv (.sim (.var 1)) (.sim (.int 2))) (.sim (.int 1))) .nil)))))
  (.cons (.set 3 (.call "_law_moving" (.cons (.sim (.var 5)) (.cons (.bin .add (.sim (.int 1)) (.call "_law_take" (.cons (.sim (.var 0)) (.cons (.sim (.var 5)) .nil)))) .nil))))
  .nil))
  .nil)
  bPlanT)
def bPlan3 : SL := (.cons (.set 2 (.call "_law_take" (.cons (.sim (.var 0)) (.cons (.sim (.int 4)) .nil))))
  (.cons (.set 3 (.call "_law_drawn_plan" (.cons (.sim (.var 0)) (.cons (.sim (.var 1)) .nil))))
  (.cons (.ite (.and_ (.cons (.cmp .eq (.sim (.var 2)) (.sim (.int 1))) (.cons (.cmp .gt (.sim (.var 1)) (.sim (.int 3))) .nil)))
  (.cons (.set 3 (.call "_law_ring" (.cons (.bin .add (.sim (.int 2)) (.call "_law_take" (.cons (.sim (.var 0)) (.cons (.bin .sub (.bin .fdiv (.sim (.var 1)) (.sim (.int 2))) (.sim (.int 1))) .nil)))) (.cons (.call "_law_take" (.cons (.sim (.var 0)) (.cons (.sim (.int 16)) .nil))) .nil))))
  .nil)
  .nil)
  bPlanM)))
def feDeck3 : FE := ⟨["_law_script"], [], none, spDeck3⟩
def spLaw : FS := fun xs Q => ∃ ns, xs = [.scr ns] ∧ ∀ rest, Q (.d (.bool true)) rest
def feMoving3 : FE := ⟨["_law_size", "_law_many"], [], none, spMoving3⟩
theorem erase_map {α β : Type} (f : α → β) : ∀ (l : List α) (i : Nat), (l.map f).eraseIdx i = (l.eraseIdx i).map f
  | [], _ => by simp
  | x :: l, 0 => rfl
  | x :: l, i + 1 => by
    show f x :: (l.map f).eraseIdx i = f x :: (l.eraseIdx i).map f
    rw [erase_map f l i]
theorem args22 {x y : PyData} : argTs [.d x, .d y] = some [.d x, .d y] := rfl
theorem sit_swap {pr pk t n e : Int} {ps : List Int} (h : Sit pr pk (sitD t n e ps)) : Sit pr pk (sitD t e n ps) := by
  obtain ⟨t', n', e', ps', eq, a1, a2, a3, a4, a5, a6, a7, a8⟩ := h
  simp only [sitD, PyData.tuple.injEq, List.cons.injEq, PyData.int.injEq, and_true] at eq
  obtain ⟨rfl, rfl, rfl, eq⟩ := eq
  refine ⟨t, e, n, ps', ?_, a1, a2, a5, a6, a3, a4, a7, a8⟩
  unfold sitD
  rw [eq]
end Tr
set_option Elab.async false
set_option linter.all false
set_option maxRecDepth 100000
set_option maxHeartbeats 4000000
set_option exponentiation.threshold 3000
namespace Tr
open PySem PySem.Spec PyProof.Rows L2
def rndS : PyData → PyData
  | .tuple [.int t, n, e, _] => .tuple [.int t, n, e, .tuple [.int t]]
  | d => d
def neP : PyData → Bool
  | .tuple [_, _, _, .tuple ps] => !ps.isEmpty
  | _ => false
/-- a sitting within the bounds -/
def Lim (s : PyData) : Prop := ∃ (t n e : Int) (ps : List Int), s = sitD t n e ps ∧ 0 ≤ t ∧ t ≤ 14 ∧ 1 ≤ ps.length ∧ ps.length ≤ 4 ∧ ps.Pairwise (· < ·)
theorem sitD_inj {t n e t' n' e' : Int} {ps ps' : List Int} (h : sitD t n e ps = sitD t' n' e' ps') : t = t' ∧ n = n' ∧ e = e' ∧ ps = ps' := by
  simp only [sitD, PyData.tuple.injEq, List.cons.injEq, PyData.int.injEq, and_true] at h
  refine ⟨h.1, h.2.1, h.2.2.1, ?_⟩
  have inj : ∀ {xs ys : List Int}, xs.map PyData.int = ys.map .int → xs = ys := by
    intro xs
    induction xs with
    | nil => intro ys z; cases ys with | nil => rfl | cons _ _ => cases z
    | cons x xs ih =>
      intro ys z
      cases ys with
      | nil => cases z
      | cons y ys =>
        simp only [List.map_cons, List.cons.injEq, PyData.int.injEq] at z
        rw [z.1, ih z.2]
  exact inj h.2.2.2
structure OneR (fs : List PyData) : Prop where
  rnd : Fit (fs.map rndS)
  pks : ∀ s ∈ fs, neP s = true
  lim : ∀ s ∈ fs, Lim s
  len : fs.length ≤ 45
theorem rnd_sit (t n e : Int) (ps : List Int) : rndS (sitD t n e ps) = sitD t n e [t] := rfl
theorem one_nil : OneR [] := ⟨fit_nil, fun _ z => (nomatch z), fun _ z => (nomatch z), Nat.zero_le _⟩
theorem OneR.perm {fs gs : List PyData} (h : OneR fs) (q : gs.Perm fs) : OneR gs := ⟨h.rnd.perm (q.map rndS), fun s hs => h.pks s (q.mem_iff.mp hs), fun s hs => h.lim s (q.mem_iff.mp hs), by rw [q.length_eq]; exact h.len⟩
theorem OneR.sub {fs gs : List PyData} (h : OneR fs) (q : gs.Sublist fs) : OneR gs := ⟨h.rnd.sub (q.map rndS), fun s hs => h.pks s (q.subset hs), fun s hs => h.lim s (q.subset hs), Nat.le_trans q.length_le h.len⟩
theorem OneR.sorted {fs : List PyData} (h : OneR fs) : OneR (fs.mergeSort dle) := h.perm (List.mergeSort_perm fs dle)
theorem norm_sit (t n e : Int) (ps : List Int) : norm (sitD t n e ps) = if n ≤ e then sitD t n e ps else sitD t e n ps := rfl
theorem rnd_norm {pr pk : Int} {s : PyData} (h : Sit pr pk s) : norm (rndS s) = rndS (norm s) := by
  obtain ⟨t, n, e, ps, rfl, _⟩ := h
  rw [rnd_sit, norm_sit, norm_sit]
  split <;> rfl
theorem ne_norm {pr pk : Int} {s : PyData} (h : Sit pr pk s) : neP (norm s) = neP s := by
  obtain ⟨t, n, e, ps, rfl, _⟩ := h
  rw [norm_sit]
  split <;> rfl
theorem OneR.norms {pr pk : Int} {fs gs : List PyData} (h : OneR fs) (hf : ∀ f ∈ fs, Sit pr pk f) (hg : ∀ f ∈ gs, Sit pr pk f) (e : gs.map norm = fs.map norm) : OneR gs := by
  have com : ∀ ls : List PyData, (∀ f ∈ ls, Sit pr pk f) → (ls.map rndS).map norm = (ls.map norm).map rndS := fun ls hl => by
    rw [List.map_map, List.map_map]
    exact List.map_congr_left fun s hs => rnd_norm (hl s hs)
  refine ⟨h.rnd.norms (by rw [com gs hg, com fs hf, e]), fun s hs => ?_, fun s hs => ?_, ?_⟩
  · have : norm s ∈ fs.map norm := e ▸ List.mem_map_of_mem hs
    obtain ⟨x, hx, hxs⟩ := List.mem_map.mp this
    rw [← ne_norm (hg s hs), ← hxs, ne_norm (hf x hx)]
    exact h.pks x hx
  · have : norm s ∈ fs.map norm := e ▸ List.mem_map_of_mem hs
    obtain ⟨x, hx, hxs⟩ := List.mem_map.mp this
    obtain ⟨t, n, ea, ps, rfl, a1, a2, a3, a4, a5⟩ := h.lim x hx
    obtain ⟨t', n', e', ps', rfl, _⟩ := hg s hs
    have key : t = t' ∧ ps = ps' := by
      rw [norm_sit, norm_sit] at hxs
      split at hxs <;> split at hxs <;> exact ⟨(sitD_inj hxs).1, (sitD_inj hxs).2.2.2⟩
    obtain ⟨rfl, rfl⟩ := key
    exact ⟨t, n', e', ps, rfl, a1, a2, a3, a4, a5⟩
  · have := congrArg List.length e
    rw [List.length_map, List.length_map] at this
    rw [this]
    exact h.len
def Apart1 (s x : PyData) : Prop := Apart s x ∧ Apart (rndS s) (rndS x)
theorem OneR.add {fs : List PyData} {t n e : Int} {ps : List Int} (h : OneR fs) (hne : n ≠ e) (hps : ps ≠ []) (ha : ∀ x ∈ fs, Apart1 (sitD t n e ps) x) (hl : Lim (sitD t n e ps)) (hlen : fs.length ≤ 44) : OneR (fs ++ [sitD t n e ps]) := by
  refine ⟨?_, fun s hs => ?_, fun s hs => ?_, by rw [List.length_append]; simp; omega⟩
  · rw [List.map_append]
    refine h.rnd.add (ps := [t]) hne (List.pairwise_singleton _ _) fun x hx => ?_
    obtain ⟨y, hy, rfl⟩ := List.mem_map.mp hx
    exact (ha y hy).2
  · rcases List.mem_append.mp hs with z | z
    · exact h.pks s z
    · rw [List.mem_singleton.mp z]
      show (!(ps.map PyData.int).isEmpty) = true
      cases ps with
      | nil => exact absurd rfl hps
      | cons _ _ => rfl
  · rcases List.mem_append.mp hs with z | z
    · exact h.lim s z
    · rw [List.mem_singleton.mp z]
      exact hl
/-- each plays the pack of its round alone -/
def Own1 (s : PyData) : Prop := rndS s = s ∧ neP s = true
theorem one_own {pr pk : Int} {fs : List PyData} (h : Fit fs) (ho : ∀ s ∈ fs, Own1 s) (hs : ∀ s ∈ fs, Sit pr pk s) (hpk : pk ≤ 15) (hl : fs.length ≤ 45) : OneR fs := by
  refine ⟨?_, fun s hs => (ho s hs).2, fun s hm => ?_, hl⟩
  rotate_left
  · obtain ⟨t, n, e, ps, rfl, b1, b2, b3, b4, b5, b6, b7, b8⟩ := hs s hm
    have e1 : rndS (sitD t n e ps) = sitD t n e ps := (ho _ hm).1
    rw [rnd_sit] at e1
    have e2 := (sitD_inj e1).2.2.2
    subst e2
    have := b7 t (by simp)
    exact ⟨t, n, e, [t], rfl, b1, by omega, by simp, by simp, by simp⟩
  have : fs.map rndS = fs := by
    conv => rhs; rw [← List.map_id fs]
    exact List.map_congr_left fun s hs => (ho s hs).1
  rw [this]
  exact h
theorem own_mov {sz : Int} {k : Nat} {s : PyData} (h : s ∈ movL sz k) : Own1 s := by
  obtain ⟨t, _, h⟩ := List.mem_flatMap.mp h
  obtain ⟨j, _, rfl⟩ := List.mem_map.mp h
  exact ⟨rfl, rfl⟩
theorem mov_len45 {sz mn : Int} (h1 : sz ≤ 5) (h2 : mn ≤ 5) : (movL sz mn.toNat).length ≤ 45 := by
  refine Nat.le_trans (flat_len _ 5 (fun a => ?_) _) ?_
  · unfold movRow
    rw [List.length_map, List.length_range]
    omega
  · rw [List.length_range]
    omega
theorem own_ring {sz : Int} {k : Nat} {s : PyData} (h : s ∈ ringL sz k) : ∃ t n e : Int, s = sitD t n e [t] := by
  obtain ⟨t, _, h⟩ := List.mem_flatMap.mp h
  rcases List.mem_cons.mp h with rfl | h
  · exact ⟨_, _, _, rfl⟩
  · obtain ⟨j, _, rfl⟩ := List.mem_map.mp h
    exact ⟨_, _, _, rfl⟩
theorem own_norm {pr pk sz : Int} {k : Nat} {fs : List PyData} (hf : ∀ f ∈ fs, Sit pr pk f) (e : fs.map norm = (ringL sz k).map norm) : ∀ s ∈ fs, Own1 s := fun s hs => by
  have : norm s ∈ (ringL sz k).map norm := e ▸ List.mem_map_of_mem hs
  obtain ⟨x, hx, hxs⟩ := List.mem_map.mp this
  obtain ⟨t, n, e, ps, rfl, _⟩ := hf s hs
  obtain ⟨t', n', e', rfl⟩ := own_ring hx
  have key : ∀ a b a' b' : Int, sitD t' a b [t'] = sitD t a' b' ps → ps = [t] := fun a b a' b' h => by
    simp only [sitD, PyData.tuple.injEq, List.cons.injEq, PyData.int.injEq, and_true] at h
    obtain ⟨rfl, _, _, h⟩ := h
    cases ps with
    | nil => cases h
    | cons p ps =>
      simp only [List.map_cons, List.map_nil, List.cons.injEq, PyData.int.injEq] at h
      obtain ⟨rfl, h⟩ := h
      cases ps with
      | nil => rfl
      | cons _ _ => cases h
  rw [norm_sit, norm_sit] at hxs
  have hps : ps = [t] := by
    split at hxs <;> split at hxs <;> exact key _ _ _ _ hxs
  subst hps
  exact ⟨rfl, rfl⟩
def spCanSit1 : FS := fun xs Q => ∃ pr pk s ss, xs = [.d s, .d (.list ss)] ∧ Sit pr pk s ∧ (∀ x ∈ ss, Sit pr pk x) ∧ ∀ b rest, (b = true → ∀ x ∈ ss, Apart1 s x) → Q (.d (.bool b)) rest
theorem ok_canSit1 {Γ : Gam} {Φ : Phi} : ∀ xs Q, spCanSit1 xs Q → fsOf Γ Φ 2 4 bCanSit xs Q := by
  rintro xs Q ⟨pr, pk, s, ss, rfl, hs, hss, hq⟩
  refine ⟨rfl, ?_⟩
  obtain ⟨t, n, e, ps, rfl, _, _, _, _, _, _, _, hps8⟩ := hs
  rw [bCanSit, r_cons]
  simp_arith
  refine ⟨fun k ρ => (∀ x ∈ ss.take k, Apart1 (sitD t n e ps) x) ∧ ρ = [some (.d (sitD t n e ps)), some (.d (.list ss)), none, none], ⟨fun _ z => (nomatch z), rfl⟩, ?_, ?_⟩
  · rintro k x ρ2 hx ⟨hap, rfl⟩
    obtain ⟨t', n', e', ps', rfl, _⟩ := hss x (List.mem_of_getElem? hx)
    have hx' : ss[k]? = some (sitD t' n' e' ps') := hx
    simp_arith [sitD]
    rw [r_cons]
    simp_arith [at3, s_tup, cut13]
    refine c_inT (shal_int _ _) (shal_int2 _ _ _) (if_l (fun _ => ?a1) fun h1 => c_inT (shal_int _ _) (shal_int2 _ _ _) (if_l (fun _ => ?a2) fun h2 => ?b))
    case b =>
      rw [any_in] at h1 h2
      exact take_mem hap hx' ⟨apart_sides h1 h2, apart_sides (ps := [t']) (ps' := [t]) h1 h2⟩
    all_goals
      simp_arith only [at3]
      refine if_l (fun _ => hq _ _ fun z => (nomatch z)) fun htt => ⟨fun j acc ρ => acc = (((ps.take j).filter fun p => decide (p ∈ ps')).map PyData.int).map Tv.d ∧ ρ = [some (.d (sitD t n e ps)), some (.d (.list ss)), some (.d (sitD t' n' e' ps')), none], ⟨rfl, rfl⟩, ?_, ?_⟩
      · rintro j y acc ρ2 hy ⟨rfl, rfl⟩
        have hj := (List.getElem?_eq_some_iff.mp hy).1
        rw [List.length_map] at hj
        rw [List.getElem?_map] at hy
        obtain ⟨p, hp, rfl⟩ := Option.map_eq_some_iff.mp hy
        have hfl := List.length_filter_le (fun p => decide (p ∈ ps')) (ps.take j)
        rw [List.length_take] at hfl
        simp_arith only [sitD, at3, List.length_map]
        refine c_inT (shal_int _ _) (shal_ints _ _) ?_
        rw [any_ints]
        refine ⟨fun h2 => ⟨small64 (by omega), ?_⟩, fun h2 => ?_⟩
        · rw [filter_st (fun p => decide (p ∈ ps')) hp h2, List.map_append, List.map_append]
          rfl
        · rw [filter_sf (fun p => decide (p ∈ ps')) hp h2]
      · rintro acc ρ2 ⟨rfl, rfl⟩
        simp_arith only
        rw [List.length_map, List.take_length]
        refine c_neNil (shal_ints _ _) (if_l (fun _ => hq _ _ fun z => (nomatch z)) fun h3 => ?_)
        refine ⟨take_mem hap hx' ⟨apart_packs fun p hp hp' => ?_, apart_packs (ps := [t']) (ps' := [t]) fun p hp hp' => ?_⟩, rfl⟩
        case refine_2 =>
          have e1 := List.mem_singleton.mp hp
          have e2 := List.mem_singleton.mp hp'
          exact absurd (e1.symm.trans e2) (by simpa using htt)
        have : p ∈ ps.filter fun p => decide (p ∈ ps') := List.mem_filter.mpr ⟨hp, decide_eq_true hp'⟩
        cases h4 : ps.filter fun p => decide (p ∈ ps') with
        | nil => rw [h4] at this; cases this
        | cons u v => rw [h4] at h3; cases h3
  · rintro ρ2 ⟨hap, rfl⟩
    rw [List.take_length] at hap
    simp_arith only
    exact hq _ _ fun _ => hap
def feCanSit1 : FE := ⟨["_law_sitting", "_law_others"], [], none, spCanSit1⟩
def spRing1 : FS := fun xs Q => ∃ sz sh : Int, xs = [.d (.int sz), .d (.int sh)] ∧ 2 ≤ sz ∧ sz ≤ 5 ∧ ∀ ss rest, PlanOk (2 * sz) (2 * sz - 1) ss → (sh = 0 → ss = (ringL sz (2 * sz - 1).toNat).mergeSort dle) → (∀ s ∈ ss, Own1 s) → ss.length ≤ 45 → Q (.d (planD (2 * sz) (2 * sz - 1) ss)) rest
theorem ok_ring1 {Γ : Gam} {Φ : Phi} : ∀ xs Q, spRing1 xs Q → fsOf Γ Φ 2 7 bRing3 xs Q := by
  rintro xs Q ⟨sz, sh, rfl, h1, h2, hq⟩
  refine ⟨rfl, ?_⟩
  rw [bRing3, r_cons]
  simp_arith [List.zip_cons_cons, List.zip_nil_right, List.foldl_cons, List.foldl_nil]
  refine ⟨m_small' (by decide) (by decide), by decide, by decide, ?_⟩
  rw [r_cons]
  simp_arith
  have hrow : ∀ t m : Nat, (t : Int) < 2 * sz - 1 → (m : Int) ≤ sz - 1 → (ringRow sz t m).length ≤ 5 ∧ ∀ f ∈ ringRow sz t m, Sit (2 * sz) (2 * sz - 1) f := fun t m ht hm => by
    unfold ringRow
    refine ⟨by rw [List.length_cons, List.length_map, List.length_range]; omega, fun f hf => ?_⟩
    rcases List.mem_cons.mp hf with rfl | hf
    · exact ⟨_, _, _, _, rfl, by omega, by omega, by omega, by omega, by omega, by omega, fun p hp => by
        have e := List.mem_singleton.mp hp
        omega, by simp⟩
    · obtain ⟨j, hj, rfl⟩ := List.mem_map.mp hf
      have m1 := Int.emod_nonneg ((t : Int) + (1 + j)) (show 2 * sz - 1 ≠ 0 by omega)
      have m2 := Int.emod_lt_of_pos ((t : Int) + (1 + j)) (show 0 < 2 * sz - 1 by omega)
      have m3 := Int.emod_nonneg ((t : Int) - (1 + j)) (show 2 * sz - 1 ≠ 0 by omega)
      have m4 := Int.emod_lt_of_pos ((t : Int) - (1 + j)) (show 0 < 2 * sz - 1 by omega)
      exact ⟨_, _, _, _, rfl, by omega, by omega, by omega, by omega, by omega, by omega, fun p hp => by
        have e := List.mem_singleton.mp hp
        omega, by simp⟩
  have hRL : ∀ k : Nat, (k : Int) ≤ 2 * sz - 1 → (ringL sz k).length ≤ 5 * k ∧ ∀ f ∈ ringL sz k, Sit (2 * sz) (2 * sz - 1) f := fun k hk => by
    induction k with
    | zero => exact ⟨Nat.zero_le _, fun _ z => (nomatch z)⟩
    | succ k ih =>
      have ih := ih (by omega)
      have hr := hrow k (sz - 1).toNat (by omega) (by omega)
      have e : ringL sz (k + 1) = ringL sz k ++ ringRow sz k (sz - 1).toNat := by
        unfold ringL
        rw [List.range_succ, List.flatMap_append, List.flatMap_cons, List.flatMap_nil, List.append_nil]
      rw [e]
      refine ⟨by rw [List.length_append]; omega, fun f hf => (List.mem_append.mp hf).elim (ih.2 f) (hr.2 f)⟩
  have nlen : ∀ fs gs : List PyData, fs.map norm = gs.map norm → fs.length = gs.length := fun fs gs e => by
    have := congrArg List.length e
    simpa using this
  refine ⟨by decide, by decide, by omega, by omega, fun k ρ => ∃ fs : List PyData, fs.map norm = (ringL sz k).map norm ∧ (sh = 0 → fs = ringL sz k) ∧ (∀ f ∈ fs, Sit (2 * sz) (2 * sz - 1) f) ∧ ρ = [some (.d (.int sz)), some (.d (.int sh)), none, some (.d (.int (2 * sz - 1))), some (.own (fs.map .d)), none, none], ⟨[], rfl, fun _ => rfl, fun _ z => (nomatch z), rfl⟩, ?_, ?_⟩
  · rintro k x ρ2 hx ⟨fs, hfn, hz, hfs, rfl⟩
    have hk := (List.getElem?_eq_some_iff.mp hx).1
    simp only [List.length_map, List.length_range] at hk
    simp only [List.getElem?_map, List.getElem?_range hk, Option.map_some, Option.some.injEq] at hx
    subst hx
    have hfl := nlen _ _ hfn
    have hrl := (hRL k (by omega)).1
    simp_arith
    rw [r_cons]
    simp_arith [fz1, fz4, List.length_map]
    refine ⟨small64 (by omega), ?_⟩
    rw [r_cons]
    simp_arith
    refine ⟨by decide, by decide, by omega, by omega, fun j ρ => ∃ fs : List PyData, fs.map norm = (ringL sz k ++ ringRow sz k j).map norm ∧ (sh = 0 → fs = ringL sz k ++ ringRow sz k j) ∧ (∀ f ∈ fs, Sit (2 * sz) (2 * sz - 1) f) ∧ ρ = [some (.d (.int sz)), some (.d (.int sh)), some (.d (.int k)), some (.d (.int (2 * sz - 1))), some (.own (fs.map .d)), none, none],
      ⟨fs ++ [sitD k (2 * sz - 1) k [(k : Int)]], by rw [List.map_append, hfn, List.map_append]; rfl, fun z => by rw [hz z]; rfl, fun f hf => ?_, by simp [sitD]⟩, ?_, ?_⟩
    · rcases List.mem_append.mp hf with h | h
      · exact hfs f h
      · exact ⟨_, _, _, _, List.mem_singleton.mp h, by omega, by omega, by omega, by omega, by omega, by omega, fun p hp => by
          have e := List.mem_singleton.mp hp
          omega, by simp⟩
    · rintro j y ρ2 hy ⟨fs, hfn, hz, hfs, rfl⟩
      have hj := (List.getElem?_eq_some_iff.mp hy).1
      simp only [List.length_map, List.length_range] at hj
      simp only [List.getElem?_map, List.getElem?_range hj, Option.map_some, Option.some.injEq] at hy
      subst hy
      have hfl := nlen _ _ hfn
      rw [List.length_append] at hfl
      have hrr := (hrow k j (by omega) (by omega)).1
      have m1 := Int.emod_nonneg ((k : Int) + (1 + j)) (show 2 * sz - 1 ≠ 0 by omega)
      have m2 := Int.emod_lt_of_pos ((k : Int) + (1 + j)) (show 0 < 2 * sz - 1 by omega)
      have m3 := Int.emod_nonneg ((k : Int) - (1 + j)) (show 2 * sz - 1 ≠ 0 by omega)
      have m4 := Int.emod_lt_of_pos ((k : Int) - (1 + j)) (show 0 < 2 * sz - 1 by omega)
      have hnext : ringRow sz k (j + 1) = ringRow sz k j ++ [sitD k (((k : Int) + (1 + j)) % (2 * sz - 1)) (((k : Int) - (1 + j)) % (2 * sz - 1)) [(k : Int)]] := by
        unfold ringRow
        rw [List.range_succ, List.map_append]
        rfl
      simp_arith
      rw [r_cons]
      simp_arith [b_int]
      refine ⟨by omega, by omega, ?_⟩
      generalize ((k : Int) + (1 + j)) % (2 * sz - 1) = A at m1 m2 hnext ⊢
      generalize ((k : Int) - (1 + j)) % (2 * sz - 1) = B at m3 m4 hnext ⊢
      obtain ⟨q, eq, q1, q2⟩ := sides (show j < 4 by omega)
      rw [r_cons]
      simp_arith [b_int, fo2, rev_d, List.reverse_cons, List.reverse_nil, eq]
      refine ⟨div_ok (by omega) (Int.lt_trans (show q < 17 by omega) (by decide)), by decide, if_l (fun _ => ?_) fun hb => ?_⟩
      · simp_arith only [fz1, fz4, List.length_map]
        refine ⟨small64 (by omega), fs ++ [sitD k A B [(k : Int)]], by rw [hnext, List.map_append, hfn, ← List.append_assoc, List.map_append (l₂ := [_])], fun z => by rw [hz z, hnext, List.append_assoc], fun f hf => ?_, by simp [sitD]⟩
        rcases List.mem_append.mp hf with h | h
        · exact hfs f h
        · exact ⟨_, _, _, _, List.mem_singleton.mp h, by omega, by omega, by omega, by omega, by omega, by omega, fun p hp => by
            have e := List.mem_singleton.mp hp
            omega, by simp⟩
      · simp_arith only [fz1, fz4, List.length_map]
        refine ⟨small64 (by omega), fs ++ [sitD k B A [(k : Int)]], by rw [hnext, List.map_append, hfn, ← List.append_assoc, List.map_append (l₂ := [_]), List.map_cons, norm_swap, List.map_cons, List.map_nil], fun z => by
          rw [z, Int.zero_ediv] at hb
          exact absurd hb (by decide), fun f hf => ?_, by simp [sitD]⟩
        rcases List.mem_append.mp hf with h | h
        · exact hfs f h
        · exact ⟨_, _, _, _, List.mem_singleton.mp h, by omega, by omega, by omega, by omega, by omega, by omega, fun p hp => by
            have e := List.mem_singleton.mp hp
            omega, by simp⟩
    · rintro ρ2 ⟨fs, hfn, hz, hfs, rfl⟩
      simp only [List.length_map, List.length_range] at hfn hz
      simp_arith only
      have hR : ringL sz k ++ ringRow sz k (sz - 1).toNat = ringL sz (k + 1) := by
        unfold ringL
        rw [List.range_succ, List.flatMap_append, List.flatMap_cons, List.flatMap_nil, List.append_nil]
      rw [hR] at hfn hz
      exact ⟨fs, hfn, hz, hfs, rfl⟩
  · rintro ρ2 ⟨fs, hfn, hz, hfs, rfl⟩
    simp only [List.length_map, List.length_range, Int.sub_zero] at hfn hz
    have hRL := hRL (2 * sz - 1).toNat (by omega)
    have hfit := (fit_of hRL.2 (ring_fit h1 h2)).norms hfn
    have hfl := nlen _ _ hfn
    simp_arith only [f_own]
    refine b_sortedD (sits_ok hfs) ?_
    simp_arith only [b_tuple, fz3]
    have e : 2 * sz - 1 + 1 = 2 * sz := by omega
    rw [e]
    exact hq _ _ (plan_sorted (by omega) (by omega) (by omega) (by omega) (by omega) hfs hfit) (fun z => by rw [hz z]) (fun s hs => own_norm hfs hfn s (List.mem_mergeSort.mp hs)) (by rw [List.length_mergeSort, hfl]; have := hRL.1; omega)
def feRing1 : FE := ⟨["_law_size", "_law_shift"], [], none, spRing1⟩
def spDrawn1 : FS := fun xs Q => ∃ a b c m : Int, xs = [deck a b c, .d (.int m)] ∧ 2 ≤ m ∧ m ≤ 10 ∧ ∀ pr pk ss a b c rest, PlanOk pr pk ss → OneR ss → Q (.d (planD pr pk ss)) (some (deck a b c) :: rest)
theorem ok_drawn1 {Γ : Gam} {Φ : Phi} (hT : Φ "_law_take" = some feTake3) (hC : Φ "_law_can_sit" = some feCanSit1) : ∀ xs Q, spDrawn1 xs Q → fsOf Γ Φ 2 11 bDrawn3 xs Q := by
  rintro xs Q ⟨a, b, c, m, rfl, h1, h2, hq⟩
  refine ⟨rfl, ?_⟩
  rw [bDrawn3, r_cons]
  simp_arith [q_callO hT rfl, args1, feTake3, List.zip_cons_cons, List.zip_nil_right, List.foldl_cons, List.foldl_nil]
  refine ⟨_, rfl, a, b, c, _, rfl, by omega, lt_big (by omega), fun r a b c rest r0 r1 => ?_⟩
  simp_arith
  refine ⟨_, rfl, a, b, c, _, rfl, by omega, lt_big (by omega), fun s a b c rest s0 s1 => ?_⟩
  simp_arith
  refine ⟨by decide, by decide, ?_⟩
  have p0 : 2 ≤ 2 + r := by omega
  have p1 : 2 + r ≤ 10 := by omega
  have k0 : 1 ≤ 1 + s := by omega
  have k1 : 1 + s ≤ 5 := by omega
  generalize 2 + r = pr at p0 p1 ⊢
  generalize 1 + s = pk at k0 k1 ⊢
  rw [r_cons]
  simp_arith [q_callO hT rfl, args1, feTake3]
  refine ⟨_, rfl, a, b, c, _, rfl, by omega, lt_big (by omega), fun tn a b c rest t0 t1 => ?_⟩
  simp_arith
  refine ⟨by decide, by decide, by omega, by omega, fun k ρ => ∃ a b c : Int, ∃ fs : List PyData, fs.length ≤ k ∧ (∀ f ∈ fs, Sit pr pk f) ∧ Fit fs ∧ OneR fs ∧ ρ = [some (deck a b c), some (.d (.int m)), none, some (.d (.int pr)), some (.d (.int pk)), some (.own (fs.map .d)), none, none, none, none, none], ⟨a, b, c, [], Nat.zero_le _, fun _ z => (nomatch z), fit_nil, one_nil, rfl⟩, ?_, ?_⟩
  · rintro k x ρ2 hx ⟨a, b, c, fs, hfl, hfs, hfit, hone, rfl⟩
    have hk := (List.getElem?_eq_some_iff.mp hx).1
    simp only [List.length_map, List.length_range] at hk
    simp_arith
    -- the sides
    rw [r_cons]
    simp_arith [q_callO hT rfl, args1, feTake3]
    refine ⟨_, rfl, a, b, c, _, rfl, by omega, lt_big (by omega), fun n a b c rest n0 n1 => ?_⟩
    simp_arith
    rw [r_cons]
    simp_arith [q_callO hT rfl, args1, feTake3]
    refine ⟨_, rfl, a, b, c, _, rfl, by omega, lt_big (by omega), fun e a b c rest e0 e1 => ?_⟩
    simp_arith [b_int]
    refine ⟨by omega, ?_⟩
    have m1 := Int.emod_nonneg (n + 1 + e) (show pr ≠ 0 by omega)
    have m2 := Int.emod_lt_of_pos (n + 1 + e) (show 0 < pr by omega)
    have hne : n ≠ (n + 1 + e) % pr := fun z => by
      have h3 : pr = 2 ∨ pr = 3 ∨ pr = 4 ∨ pr = 5 ∨ pr = 6 ∨ pr = 7 ∨ pr = 8 ∨ pr = 9 ∨ pr = 10 := by omega
      rcases h3 with rfl | rfl | rfl | rfl | rfl | rfl | rfl | rfl | rfl <;> omega
    generalize (n + 1 + e) % pr = ea at m1 m2 hne ⊢
    -- the packs
    rw [r_cons]
    simp_arith [q_callO hT rfl, args1, feTake3]
    refine ⟨_, rfl, a, b, c, _, rfl, by omega, lt_big (by omega), fun w a b c rest w0 w1 => ?_⟩
    simp_arith
    refine ⟨wide_div (b := 2) (by decide) (by decide) (by decide) (by decide), by decide, by decide, by omega, by omega, ?_⟩
    have hw : (1 + w / 2).toNat ≤ 2 := by omega
    have hw1 : 1 ≤ (1 + w / 2).toNat := by omega
    generalize (1 + w / 2).toNat = W at hw hw1 ⊢
    refine ⟨fun j acc ρ => ∃ a b c : Int, ∃ L : List Int, acc = (L.map PyData.int).map Tv.d ∧ L.length = j ∧ (∀ p ∈ L, 0 ≤ p ∧ p < pk) ∧ ρ = [some (deck a b c), some (.d (.int m)), some (.d x), some (.d (.int pr)), some (.d (.int pk)), some (.own (fs.map .d)), some (.d (.int n)), some (.d (.int ea)), none, none, none], ⟨a, b, c, [], rfl, rfl, fun _ z => (nomatch z), rfl⟩, ?_, ?_⟩
    · rintro j y acc ρ2 hy ⟨a, b, c, L, rfl, hL, hLp, rfl⟩
      have hj := (List.getElem?_eq_some_iff.mp hy).1
      simp only [List.length_map, List.length_range] at hj
      simp_arith only [q_callO hT rfl, args1, feTake3]
      refine ⟨fun _ => ⟨_, rfl, a, b, c, _, rfl, by omega, lt_big (by omega), fun p a b c rest q0 q1 => ?_⟩, fun z => (nomatch z)⟩
      simp_arith only [List.length_map]
      refine ⟨small64 (by omega), a, b, c, L ++ [p], by simp, by simp [hL], fun q hq => ?_, rfl⟩
      rcases List.mem_append.mp hq with h | h
      · exact hLp q h
      · have e := List.mem_singleton.mp h
        omega
    rintro acc ρ2 ⟨a, b, c, L, rfl, hL, hLp, rfl⟩
    simp only [List.length_map, List.length_range] at hL
    simp_arith [f_own, intsOf_map, map_map_d]
    refine ⟨by omega, fun ms hms => ?_⟩
    simp_arith [b_tuple]
    have hms2 := sub_len hms
    have hmne : ms ≠ [] := fun z => by
      obtain ⟨x, hx⟩ := List.exists_mem_of_length_pos (show 0 < L.length by omega)
      have := (hms.2 x).mpr hx
      rw [z] at this
      cases this
    have hmp : ∀ p ∈ ms, 0 ≤ p ∧ p < pk := fun p hp => hLp p ((hms.2 p).mp hp)
    -- the sitting
    rw [r_cons]
    simp_arith [q_callO hT rfl, args1, feTake3]
    refine ⟨_, rfl, a, b, c, _, rfl, by omega, lt_big (by omega), fun t a b c rest t0' t1' => ?_⟩
    simp_arith [fz4]
    rw [r_cons]
    have hsit : Sit pr pk (sitD t n ea ms) := ⟨t, n, ea, ms, rfl, t0', by omega, n0, n1, m1, m2, hmp, by omega⟩
    simp_arith [q_callL hC rfl, svs, args2, feCanSit1]
    refine ⟨pr, pk, _, fs, rfl, hsit, hfs, fun ok rest hap => ⟨rfl, ?_⟩⟩
    simp_arith
    refine if_l (fun hok => ?_) fun _ => ?_
    · simp_arith only [List.length_map]
      refine ⟨small64 (by omega), a, b, c, fs ++ [sitD t n ea ms], by rw [List.length_append]; exact Nat.succ_le_succ hfl, fun f hf => ?_, hfit.add hne (hms.1.imp fun h => Int.ne_of_lt h) (fun x hx => (hap hok x hx).1), hone.add hne hmne (hap hok) ⟨t, n, ea, ms, rfl, t0', by omega, by cases ms with | nil => exact absurd rfl hmne | cons _ _ => simp, by omega, hms.1⟩ (by omega), by simp [sitD]⟩
      rcases List.mem_append.mp hf with h | h
      · exact hfs f h
      · rw [List.mem_singleton.mp h]
        exact hsit
    · exact ⟨a, b, c, fs, by omega, hfs, hfit, hone, rfl, rfl⟩
  · rintro ρ2 ⟨a, b, c, fs, hfl, hfs, hfit, hone, rfl⟩
    simp only [List.length_map, List.length_range] at hfl
    simp_arith only [f_own]
    refine b_sortedD (sits_ok hfs) ?_
    simp_arith only [b_tuple, fz3]
    exact hq _ _ _ _ _ _ _ (plan_sorted (by omega) (by omega) (by omega) (by omega) (by omega) hfs hfit) hone.sorted
def feDrawn1 : FE := ⟨["_law_deck_here", "_law_most"], [], some 0, spDrawn1⟩
theorem ok_plan1 {Γ : Gam} {Φ : Phi} (hT : Φ "_law_take" = some feTake3) (hD : Φ "_law_drawn_plan" = some feDrawn1) (hR : Φ "_law_ring" = some feRing1) (hM : Φ "_law_moving" = some feMoving3) : ∀ xs Q, spDrawn1 xs Q → fsOf Γ Φ 2 7 bPlan3 xs Q := by
  rintro xs Q ⟨a, b, c, m, rfl, h1, h2, hq⟩
  refine ⟨rfl, ?_⟩
  rw [bPlan3, r_cons]
  simp_arith [q_callO hT rfl, args1, feTake3]
  refine ⟨_, rfl, a, b, c, _, rfl, by omega, lt_big (by omega), fun so a b c rest so0 so1 => ?_⟩
  simp_arith
  rw [r_cons]
  simp_arith [q_callO hD rfl, args1, feDrawn1]
  refine ⟨_, rfl, a, b, c, _, rfl, h1, h2, fun pr pk ss a b c rest hP hO => ?_⟩
  simp_arith
  have hp0 := hP
  have CE : ∀ R : Prop, (R → R) := fun _ h => h
  -- what follows, from any plan
  have tailV : ∀ (pr pk : Int) (ss fs : List PyData) (a b c : Int) (x o : Tv) (oo : Option Tv), PlanOk pr pk ss → fs.length ≤ 60 → (∀ f ∈ fs, Sit pr pk f) → Fit fs → OneR fs → (x = .own (fs.map .d)) → wSL Γ Φ bPlanV
      { nx := fun ρ => Q (.d .none) ρ, rt := fun x ρ => Q x ρ } [some (deck a b c), some (.d (.int m)), some (.d (.int so)), some (.d (planD pr pk ss)), some x, oo, none] := by
    intro pr pk ss fs a b c x o oo hP hl hf hft hone hx
    subst hx
    rw [bPlanV, r_cons]
    simp_arith only [planD, f_own, at2]
    refine b_sortedD (sits_ok hf) ?_
    simp_arith only [b_tuple, fz3]
    exact hq _ _ _ _ _ _ _ (plan_sorted hP.p1 hP.p2 hP.k1 hP.k2 hl hf hft) hone.sorted
  have tailU : ∀ (pr pk : Int) (ss fs : List PyData) (a b c : Int) (oo : Option Tv), PlanOk pr pk ss → fs.length ≤ 60 → (∀ f ∈ fs, Sit pr pk f) → Fit fs → OneR fs → wSL Γ Φ bPlanU
      { nx := fun ρ => Q (.d .none) ρ, rt := fun x ρ => Q x ρ } [some (deck a b c), some (.d (.int m)), some (.d (.int so)), some (.d (planD pr pk ss)), some (.own (fs.map .d)), oo, none] := by
    intro pr pk ss fs a b c oo hP hl hf hft hone
    rw [bPlanU, r_cons]
    simp_arith [q_callO hT rfl, args1, feTake3]
    refine ⟨_, rfl, a, b, c, _, rfl, by decide, lt_big (by decide), fun z a b c rest z0 z1 => ?_⟩
    simp_arith
    refine if_l (fun _ => ?_) fun _ => tailV _ _ _ fs _ _ _ _ (.d .none) _ hP hl hf hft hone rfl
    rw [r_cons]
    simp_arith [f_own]
    refine ⟨fun j acc ρ => ∃ a b c : Int, ∃ gs : List PyData, acc = gs.map .d ∧ gs.map norm = (fs.take j).map norm ∧ gs.length = j ∧ (∀ f ∈ gs, Sit pr pk f) ∧ ρ = [some (deck a b c), some (.d (.int m)), some (.d (.int so)), some (.d (planD pr pk ss)), some (.d (.list fs)), oo, none], ⟨a, b, c, [], rfl, rfl, rfl, fun _ z => (nomatch z), rfl⟩, ?_, ?_⟩
    · rintro j y acc ρ2 hy ⟨a, b, c, gs, rfl, hgn, hgl, hgs, rfl⟩
      have hj := (List.getElem?_eq_some_iff.mp hy).1
      have hsit := hf y (List.mem_of_getElem? hy)
      obtain ⟨t, n, e, ps, rfl, hrest⟩ := hsit
      have hsit : Sit pr pk (sitD t n e ps) := ⟨t, n, e, ps, rfl, hrest⟩
      have hy' : fs[j]? = some (sitD t n e ps) := hy
      simp_arith only [q_callO hT rfl, args1, feTake3]
      refine ⟨fun _ => ⟨_, rfl, a, b, c, _, rfl, by decide, lt_big (by decide), fun w a b c rest w0 w1 => ?_⟩, fun z => (nomatch z)⟩
      simp_arith only [sitD, at3, at2, fz4, List.length_map]
      refine if_l (fun _ => ⟨small64 (by omega), a, b, c, gs ++ [sitD t e n ps], by simp [sitD], by rw [take_snoc hy', List.map_append, List.map_append, hgn, List.map_cons, norm_swap, List.map_cons, List.map_nil], by simp [hgl], fun f hf => ?_, rfl⟩) fun _ => ⟨small64 (by omega), a, b, c, gs ++ [sitD t n e ps], by simp [sitD], by rw [take_snoc hy', List.map_append, List.map_append, hgn], by simp [hgl], fun f hf => ?_, rfl⟩
      · rcases List.mem_append.mp hf with h | h
        · exact hgs f h
        · rw [List.mem_singleton.mp h]
          exact sit_swap hsit
      · rcases List.mem_append.mp hf with h | h
        · exact hgs f h
        · rw [List.mem_singleton.mp h]
          exact hsit
    · rintro acc ρ2 ⟨a, b, c, gs, rfl, hgn, hgl, hgs, rfl⟩
      simp_arith
      exact tailV _ _ _ gs _ _ _ _ (.d .none) _ hP (by omega) hgs (hft.norms (by rw [hgn, List.take_length])) (hone.norms hf hgs (by rw [hgn, List.take_length])) rfl
  have tail : ∀ (pr pk : Int) (ss : List PyData) (a b c : Int) (o : Option Tv), PlanOk pr pk ss → OneR ss → wSL Γ Φ bPlanT
      { nx := fun ρ => Q (.d .none) ρ, rt := fun x ρ => Q x ρ } [some (deck a b c), some (.d (.int m)), some (.d (.int so)), some (.d (planD pr pk ss)), none, o, none] := by
    intro pr pk ss a b c o hP hone
    rw [bPlanT, r_cons]
    simp_arith [planD, at2, b_listT]
    rw [r_cons]
    simp_arith [q_callO hT rfl, args1, feTake3]
    refine c_neNil (List.all_eq_true.mpr fun x hx => shal_sit (hP.sit x hx) 27) (if_l (fun hne => ?_) fun _ => tailU _ _ _ ss _ _ _ _ hP hP.len hP.sit hP.fit hone)
    refine ⟨_, rfl, a, b, c, _, rfl, by decide, lt_big (by decide), fun z a b c rest z0 z1 => ?_⟩
    simp_arith
    refine if_l (fun _ => ?_) fun _ => tailU _ _ _ ss _ _ _ _ hP hP.len hP.sit hP.fit hone
    have hpos : 0 < ss.length := by
      cases ss with
      | nil => cases hne
      | cons x l => exact Nat.succ_pos _
    rw [r_cons]
    simp_arith [q_callO hT rfl, args1, feTake3, List.length_map]
    refine ⟨_, rfl, a, b, c, _, rfl, by omega, lt_big (by have := hP.len; omega), fun w a b c rest w0 w1 => ?_⟩
    simp_arith
    have hw : w.toNat < ss.length := by omega
    refine ⟨w0, Int.lt_trans (show w < 100 by have := hP.len; omega) (by decide), .d ss[w.toNat], by simp [hw], ?_⟩
    rw [erase_map]
    exact tailU _ _ _ (ss.eraseIdx w.toNat) _ _ _ _ hP (Nat.le_trans (List.length_eraseIdx_le ..) hP.len) (fun f hf => hP.sit f (List.mem_of_mem_eraseIdx hf)) (hP.fit.sub (List.eraseIdx_sublist ..)) (hone.sub (List.eraseIdx_sublist ..))
  have tail2 : ∀ (pr pk : Int) (ss : List PyData) (a b c : Int), PlanOk pr pk ss → OneR ss → wSL Γ Φ bPlanM
      { nx := fun ρ => Q (.d .none) ρ, rt := fun x ρ => Q x ρ } [some (deck a b c), some (.d (.int m)), some (.d (.int so)), some (.d (planD pr pk ss)), none, none, none] := by
    intro pr pk ss a b c hP hone
    rw [bPlanM, r_cons]
    simp_arith
    refine if_l (fun _ => if_l (fun h3 => ?_) fun _ => tail _ _ _ _ _ _ _ hP hone) fun _ => tail _ _ _ _ _ _ _ hP hone
    have h3 : 3 < m := of_decide_eq_true h3
    rw [r_cons]
    simp_arith [q_callO hT rfl, args1, feTake3]
    refine ⟨wide_div (b := 2) (by decide) (by decide) (by decide) (by decide), _, rfl, a, b, c, _, rfl, by omega, lt_big (by omega), fun z a b c rest z0 z1 => ?_⟩
    simp_arith
    rw [r_cons]
    simp_arith [q_call hM rfl, q_callO hT rfl, args1, feTake3, feMoving3]
    refine ⟨_, rfl, a, b, c, _, rfl, by omega, lt_big (by omega), fun s a b c rest s0 s1 => ?_⟩
    simp_arith [args22]
    refine ⟨_, _, rfl, by omega, by omega, by omega, by omega, fun ss rest hP hss => ?_⟩
    simp_arith
    exact tail _ _ _ _ _ _ _ hP (one_own hP.fit (fun s hs => own_mov (List.mem_mergeSort.mp (hss ▸ hs))) hP.sit (by omega) (by rw [hss, List.length_mergeSort]; exact mov_len45 (by omega) (by omega)))
  rw [r_cons]
  simp_arith
  refine if_l (fun _ => if_l (fun h3 => ?_) fun _ => tail2 _ _ _ _ _ _ hP hO) fun _ => tail2 _ _ _ _ _ _ hP hO
  have h3 : 3 < m := of_decide_eq_true h3
  rw [r_cons]
  simp_arith [q_call hR rfl, q_callO hT rfl, args1, feTake3, feRing1]
  refine ⟨wide_div (b := 2) (by decide) (by decide) (by decide) (by decide), _, rfl, a, b, c, _, rfl, by omega, lt_big (by omega), fun z a b c rest z0 z1 => ?_⟩
  simp_arith
  refine ⟨_, rfl, a, b, c, _, rfl, by decide, lt_big (by decide), fun s a b c rest s0 s1 => ?_⟩
  simp_arith [args22]
  refine ⟨_, _, rfl, by omega, by omega, fun ss rest hP _ hown hlen => ?_⟩
  simp_arith
  exact tail2 _ _ _ _ _ _ hP (one_own hP.fit hown hP.sit (by omega) hlen)
def fePlan1 : FE := ⟨["_law_deck_here", "_law_most"], [], some 0, spDrawn1⟩
end Tr
set_option Elab.async false
set_option linter.all false
set_option maxRecDepth 100000
set_option maxHeartbeats 4000000
namespace Tr
open PySem PySem.Spec PyProof.Rows L2
section
variable {α : Type} {Γ : Gam} {Φ : Phi} {ρ : Env'} {Q : Tv → Env' → Prop} {tg : Tg} {vs : List Nat} {wc : Env' → (Bool → Env' → Prop) → Prop} {we : WE} {l : List α} {f : α → PyData}
theorem lc_fm (σ : α → Env') (β : α → Bool) (g : α → PyData) (hl : l.length ≤ 900) (w0 : wipeR ρ vs = ρ) (r0 : restR ρ ρ vs = ρ)
    (ht : ∀ x ∈ l, ∀ R : Env' → Prop, R (σ x) → wTg tg (f x) ρ R) (hw : ∀ x ∈ l, wipeR (σ x) vs = ρ)
    (h : ∀ x ∈ l, ∀ R : Bool → Env' → Prop, R (β x) (σ x) → wc (σ x) R)
    (h2 : ∀ x ∈ l, β x = true → ∀ R : Tv → Env' → Prop, R (.d (g x)) (σ x) → we (σ x) R)
    (q : Q (.own (((l.filter β).map g).map Tv.d)) ρ) : wLcL tg (l.map f) wc we vs ρ Q := by
  refine ⟨fun k acc ρ2 => acc = (((l.take k).filter β).map g).map Tv.d ∧ ρ2 = ρ, ⟨rfl, w0⟩, ?_, ?_⟩
  · rintro k y acc ρ2 hy ⟨rfl, rfl⟩
    rw [List.getElem?_map] at hy
    obtain ⟨x, hx, rfl⟩ := Option.map_eq_some_iff.mp hy
    have hm := List.mem_of_getElem? hx
    have hk := (List.getElem?_eq_some_iff.mp hx).1
    refine ht x hm _ (h x hm _ ⟨fun e => h2 x hm e _ ⟨?_, ?_, hw x hm⟩, fun e => ⟨?_, hw x hm⟩⟩)
    · refine small64 ?_
      rw [List.length_map, List.length_map]
      have := List.length_filter_le β (l.take k)
      rw [List.length_take] at this
      omega
    · rw [take_snoc hx, List.filter_append, List.filter_cons, if_pos e, List.filter_nil, List.map_append, List.map_append]
      rfl
    · rw [take_snoc hx, List.filter_append, List.filter_cons, if_neg (by rw [e]; simp), List.filter_nil, List.append_nil]
  · rintro acc ρ2 ⟨rfl, rfl⟩
    rw [List.length_map, List.take_length, r0]
    exact q
theorem lc_m (σ : α → Env') (g : α → PyData) (hl : l.length ≤ 900) (w0 : wipeR ρ vs = ρ) (r0 : restR ρ ρ vs = ρ)
    (ht : ∀ x ∈ l, ∀ R : Env' → Prop, R (σ x) → wTg tg (f x) ρ R) (hw : ∀ x ∈ l, wipeR (σ x) vs = ρ)
    (h2 : ∀ x ∈ l, ∀ R : Tv → Env' → Prop, R (.d (g x)) (σ x) → we (σ x) R)
    (q : Q (.own ((l.map g).map Tv.d)) ρ) : wLcL tg (l.map f) (wC Γ Φ .non) we vs ρ Q := by
  refine lc_fm σ (fun _ => true) g hl w0 r0 ht hw (fun x hx R z => z) (fun x hx _ R z => h2 x hx R z) ?_
  rw [List.filter_eq_self.mpr fun _ _ => rfl]
  exact q
theorem lc_fm1 {v : Nat} (β : α → Bool) (g : α → PyData) (hl : l.length ≤ 900) (w0 : wipeR ρ [v] = ρ) (r0 : restR ρ ρ [v] = ρ) (hv : v < ρ.length)
    (h : ∀ x ∈ l, ∀ R : Bool → Env' → Prop, R (β x) (ρ.set v (some (.d (f x)))) → wc (ρ.set v (some (.d (f x)))) R)
    (h2 : ∀ x ∈ l, β x = true → ∀ R : Tv → Env' → Prop, R (.d (g x)) (ρ.set v (some (.d (f x)))) → we (ρ.set v (some (.d (f x)))) R)
    (q : Q (.own (((l.filter β).map g).map Tv.d)) ρ) : wLcL (.name v) (l.map f) wc we [v] ρ Q := by
  refine lc_fm (fun x => ρ.set v (some (.d (f x)))) β g hl w0 r0 (fun x hx R z => ⟨hv, z⟩) (fun x hx => ?_) h h2 q
  have w0 : ρ.set v none = ρ := w0
  show (ρ.set v _).set v none = ρ
  rw [List.set_set, w0]
theorem lc_m1 {v : Nat} (g : α → PyData) (hl : l.length ≤ 900) (w0 : wipeR ρ [v] = ρ) (r0 : restR ρ ρ [v] = ρ) (hv : v < ρ.length)
    (h2 : ∀ x ∈ l, ∀ R : Tv → Env' → Prop, R (.d (g x)) (ρ.set v (some (.d (f x)))) → we (ρ.set v (some (.d (f x)))) R)
    (q : Q (.own ((l.map g).map Tv.d)) ρ) : wLcL (.name v) (l.map f) (wC Γ Φ .non) we [v] ρ Q := by
  refine lc_fm1 (fun _ => true) g hl w0 r0 hv (fun x hx R z => z) (fun x hx _ R z => h2 x hx R z) ?_
  rw [List.filter_eq_self.mpr fun _ _ => rfl]
  exact q
end
end Tr
set_option Elab.async false
set_option linter.all false
set_option maxRecDepth 100000
set_option maxHeartbeats 4000000
set_option exponentiation.threshold 3000
namespace Tr
open PySem PySem.Spec PyProof.Rows L2
def Trip (pr pk : Int) (d : PyData) : Prop := ∃ p n e : Int, d = tripD p n e ∧ 0 ≤ p ∧ p < pk ∧ 0 ≤ n ∧ n < pr ∧ 0 ≤ e ∧ e < pr
def playsL (ss : List PyData) : List PyData := (ss.flatMap tripsOf).mergeSort dle
theorem trips_ok {pr pk : Int} {s : PyData} (h : Sit pr pk s) : (tripsOf s).length ≤ 8 ∧ ∀ x ∈ tripsOf s, Trip pr pk x := by
  obtain ⟨t, n, e, ps, rfl, _, _, a3, a4, a5, a6, a7, a8⟩ := h
  rw [trips_sit]
  refine ⟨by rw [List.length_map]; exact a8, fun x hx => ?_⟩
  obtain ⟨p, hp, rfl⟩ := List.mem_map.mp hx
  exact ⟨p, n, e, rfl, (a7 p hp).1, (a7 p hp).2, a3, a4, a5, a6⟩
theorem trips_len {pr pk : Int} : ∀ {ss : List PyData}, (∀ s ∈ ss, Sit pr pk s) → (ss.flatMap tripsOf).length ≤ 8 * ss.length
  | [], _ => Nat.le_refl _
  | s :: ss, h => by
    rw [List.flatMap_cons, List.length_append, List.length_cons]
    have h1 := (trips_ok (h s (by simp))).1
    have h2 := trips_len (ss := ss) fun x hx => h x (by simp [hx])
    omega
theorem trips_all {pr pk : Int} {ss : List PyData} (h : ∀ s ∈ ss, Sit pr pk s) : ∀ x ∈ ss.flatMap tripsOf, Trip pr pk x := fun x hx => by
  obtain ⟨s, hs, hx⟩ := List.mem_flatMap.mp hx
  exact (trips_ok (h s hs)).2 x hx
theorem trip_sort {pr pk : Int} {xs : List PyData} (h : ∀ x ∈ xs, Trip pr pk x) : SortOk xs where
  al := fun a ha b hb => by
    obtain ⟨p, n, e, rfl, _⟩ := h a ha
    obtain ⟨p', n', e', rfl, _⟩ := h b hb
    simp [tripD, PySem.W.alike, PySem.W.alikeAll]
  so := .inl fun d hd => by
    obtain ⟨p, n, e, rfl, _⟩ := h d hd
    exact ⟨_, _, rfl⟩
  sh := fun x hx => by
    obtain ⟨p, n, e, rfl, _⟩ := h x hx
    rfl
theorem plays_len {pr pk : Int} {ss : List PyData} (h : PlanOk pr pk ss) : (playsL ss).length ≤ 480 := by
  unfold playsL
  rw [List.length_mergeSort]
  have h1 := trips_len h.sit
  have h2 := h.len
  omega
theorem plays_all {pr pk : Int} {ss : List PyData} (h : PlanOk pr pk ss) : ∀ x ∈ playsL ss, Trip pr pk x := fun x hx => trips_all h.sit x (List.mem_mergeSort.mp hx)
def bPlays : SL := (.cons (.set 1 (.lst .nil))
  (.cons (.for_ (.tup (.cons (.name 2) (.cons (.name 3) (.cons (.name 4) (.cons (.name 5) .nil))))) (.seq (.sim (.idx (.var 0) (.int 2))))
  (.cons (.ext 1 (.lc (.tup (.cons (.sim (.var 6)) (.cons (.sim (.var 3)) (.cons (.sim (.var 4)) .nil)))) (.name 6) (.seq (.sim (.var 5))) .non [6]))
  .nil)
  [2, 3, 4, 5])
  (.cons (.ret (.blt1 .tuple (.blt1 .sorted (.sim (.var 1)))))
  .nil)))
def spPlays : FS := fun xs Q => ∃ pr pk ss, xs = [.d (planD pr pk ss)] ∧ PlanOk pr pk ss ∧ ∀ rest, Q (.d (.tuple (playsL ss))) rest
theorem plays_loop {Γ : Gam} {Φ : Phi} {pr pk : Int} {ss : List PyData} (hP : PlanOk pr pk ss) {D : DE} (hD : D.nx [some (.d (planD pr pk ss)), some (.own ((ss.flatMap tripsOf).map .d)), none, none, none, none, none]) :
    wForL (.tup (.cons (.name 2) (.cons (.name 3) (.cons (.name 4) (.cons (.name 5) .nil))))) ss
      (wSL Γ Φ (.cons (.ext 1 (.lc (.tup (.cons (.sim (.var 6)) (.cons (.sim (.var 3)) (.cons (.sim (.var 4)) .nil)))) (.name 6) (.seq (.sim (.var 5))) .non [6])) .nil)) [2, 3, 4, 5] D
      [some (.d (planD pr pk ss)), some (.own []), none, none, none, none, none] := by
  refine ⟨fun k ρ => ρ = [some (.d (planD pr pk ss)), some (.own (((ss.take k).flatMap tripsOf).map .d)), none, none, none, none, none], rfl, ?_, ?_⟩
  · rintro k x ρ2 hx rfl
    have hk := (List.getElem?_eq_some_iff.mp hx).1
    have hlen := hP.len
    have hsit := hP.sit x (List.mem_of_getElem? hx)
    have htl := trips_len (ss := ss.take k) fun s hs => hP.sit s (List.mem_of_mem_take hs)
    have htk := List.length_take_le k ss
    obtain ⟨t, n, e, ps, rfl, hrest⟩ := hsit
    have h8 : ps.length ≤ 8 := hrest.2.2.2.2.2.2.2
    simp_arith only [sitD]
    refine ⟨fun j acc ρ => acc = ((ps.take j).map fun p => tripD p n e).map Tv.d ∧ ρ = [some (.d (planD pr pk ss)), some (.own (((ss.take k).flatMap tripsOf).map .d)), some (.d (.int t)), some (.d (.int n)), some (.d (.int e)), some (.d (.tuple (ps.map .int))), none], ⟨rfl, rfl⟩, ?_, ?_⟩
    · rintro j y acc ρ2 hy ⟨rfl, rfl⟩
      rw [List.getElem?_map] at hy
      obtain ⟨p, hp, rfl⟩ := Option.map_eq_some_iff.mp hy
      have hj := (List.getElem?_eq_some_iff.mp hp).1
      simp_arith only [fz3, List.length_map, List.length_take]
      refine ⟨fun _ => ⟨small64 (by omega), ?_⟩, fun z => (nomatch z)⟩
      rw [take_snoc hp]
      simp [tripD]
    · rintro acc ρ2 ⟨rfl, rfl⟩
      simp_arith only [f_own, List.length_map, List.take_length]
      refine ⟨by rw [sizeLine_eq]; omega, ?_⟩
      rw [take_snoc hx, List.flatMap_append, List.flatMap_cons, List.flatMap_nil, List.append_nil, trips_sit, List.map_append]
  · rintro ρ2 rfl
    rw [List.take_length]
    exact hD
theorem ok_plays {Γ : Gam} {Φ : Phi} : ∀ xs Q, spPlays xs Q → fsOf Γ Φ 1 7 bPlays xs Q := by
  rintro xs Q ⟨pr, pk, ss, rfl, hP, hq⟩
  refine ⟨rfl, ?_⟩
  rw [bPlays, r_cons]
  simp_arith [planD]
  rw [r_cons]
  simp_arith [at2]
  refine plays_loop hP ?_
  simp_arith only [f_own]
  refine b_sortedD (trip_sort (trips_all hP.sit)) ?_
  simp only [b_tuple]
  exact hq _
end Tr
set_option Elab.async false
set_option linter.all false
set_option maxRecDepth 100000
set_option maxHeartbeats 4000000
set_option exponentiation.threshold 3000
namespace Tr
open PySem PySem.Spec PyProof.Rows L2
def fePlays : FE := ⟨["plan"], [["plan"]], none, spPlays⟩
theorem fo1 {a : PyData} : (Tv.own [.d a]).frz = some (.list [a]) := rfl
theorem args33 {x y z : PyData} : argTs [.d x, .d y, .d z] = some [.d x, .d y, .d z] := rfl
end Tr
set_option Elab.async false
set_option linter.all false
set_option maxRecDepth 100000
set_option maxHeartbeats 1000000
set_option exponentiation.threshold 3000
namespace Tr
open PySem PySem.Spec PyProof.Rows L2
def shPz : PyData → PyData → Bool
  | .tuple [_, .int n, .int e, _], .tuple [_, .int n', .int e', _] => (n' == n || e' == n) || (n' == e || e' == e)
  | _, _ => false
def rdS : PyData → Int
  | .tuple [.int t, _, _, _] => t
  | _ => 0
def shKz : PyData → PyData → Bool
  | .tuple [_, _, _, .tuple ps], .tuple [_, _, _, .tuple qs] => ps.any fun p => qs.any fun q => PyData.eqv q p
  | _, _ => false
def VS (pr pk : Int) (s : PyData) : Prop := ∃ (t n e : Int) (ps : List Int), s = sitD t n e ps ∧ 0 ≤ t ∧ t ≤ 14 ∧ 0 ≤ n ∧ n < pr ∧ 0 ≤ e ∧ e < pr ∧ n ≠ e ∧ 1 ≤ ps.length ∧ ps.length ≤ 4 ∧ (∀ p ∈ ps, 0 ≤ p ∧ p < pk) ∧ ps.Pairwise (· < ·)
theorem VS.sit {pr pk : Int} {s : PyData} (h : VS pr pk s) : Sit pr pk s := by
  obtain ⟨t, n, e, ps, rfl, a1, a2, a3, a4, a5, a6, a7, a8, a9, a10, _⟩ := h
  exact ⟨t, n, e, ps, rfl, a1, by omega, a3, a4, a5, a6, a10, by omega⟩
theorem argsQ3 {x y z : PyData} : argTs [.d x, .d y, .d z] = some [.d x, .d y, .d z] := rfl
theorem argsQ4 {x y z u : PyData} : argTs [.d x, .d y, .d z, .d u] = some [.d x, .d y, .d z, .d u] := rfl
theorem bools_mapV : ∀ bs : List Bool, boolsOf (bs.map PyData.bool) = some bs
  | [] => rfl
  | b :: bs => by
    show (boolsOf (bs.map PyData.bool)).map (b :: ·) = _
    rw [bools_mapV bs]
    rfl
theorem cut_from5 {α : Type} (xs : List α) (k : Nat) : cutD xs (some (k : Int)) none = xs.drop k := by
  unfold cutD
  rw [HT.sIx_none, HT.sIx_nat]
  by_cases h : k ≤ xs.length
  · rw [Nat.min_eq_left h, List.take_of_length_le (by rw [List.length_drop]; omega)]
  · rw [Nat.min_eq_right (by omega), List.drop_eq_nil_of_le (show xs.length ≤ k by omega), List.drop_length, List.take_nil]
theorem cut_toT5 {α : Type} (xs : List α) (k : Nat) : cutD xs none (some (k : Int)) = xs.take k := by
  unfold cutD
  rw [HT.sIx_none, HT.sIx_nat]
  show List.take (min k xs.length - 0) (xs.drop 0) = _
  rw [List.drop_zero, Nat.sub_zero]
  by_cases h : k ≤ xs.length
  · rw [Nat.min_eq_left h]
  · rw [Nat.min_eq_right (by omega), List.take_of_length_le (Nat.le_refl _), List.take_of_length_le (by omega)]
theorem c_ltD {a b : PyData} {R : Bool → Prop} (ha : ∀ i, a ≠ .int i) (h1 : PySem.W.alike a b = true) (h2 : a ≠ .none) (h3 : shal 30 a = true) (h : R (PySem.W.dataLt a b)) : cmpO .lt (.d a) (.d b) R :=
  ⟨a, b, rfl, rfl, by
    show ordC a b _ _ R
    unfold ordC
    split
    · exact absurd rfl (ha _)
    · exact ⟨h1, h2, h3, h⟩⟩
def bIsInt : SL := (.cons (.ite (.or_ (.cons (.not_ (.isi (.sim (.var 0)) "int")) (.cons (.isi (.sim (.var 0)) "bool") .nil)))
  (.cons (.ret (.sim (.bl false)))
  .nil)
  .nil)
  (.cons (.ret (.and_ (.cons (.or_ (.cons (.isN (.sim (.var 1))) (.cons (.cmp .ge (.sim (.var 0)) (.sim (.var 1))) .nil))) (.cons (.or_ (.cons (.isN (.sim (.var 2))) (.cons (.cmp .le (.sim (.var 0)) (.sim (.var 2))) .nil))) .nil))))
  .nil))
def bIsSit : SL := (.cons (.ite (.or_ (.cons (.not_ (.isi (.sim (.var 2)) "tuple")) (.cons (.cmp .ne (.sim (.len (.var 2))) (.sim (.int 4))) (.cons (.not_ (.call "is_integer" (.cons (.sim (.idx (.var 2) (.int 0))) (.cons (.sim (.int 0)) (.cons (.bin .sub (.sim (.glob "MAX_ROUNDS")) (.sim (.int 1))) .nil))))) .nil))))
  (.cons (.ret (.sim (.bl false)))
  .nil)
  .nil)
  (.cons (.ite (.or_ (.cons (.not_ (.call "is_integer" (.cons (.sim (.idx (.var 2) (.int 1))) (.cons (.sim (.int 0)) (.cons (.bin .sub (.sim (.var 0)) (.sim (.int 1))) .nil))))) (.cons (.not_ (.call "is_integer" (.cons (.sim (.idx (.var 2) (.int 2))) (.cons (.sim (.int 0)) (.cons (.bin .sub (.sim (.var 0)) (.sim (.int 1))) .nil))))) (.cons (.cmp .eq (.sim (.idx (.var 2) (.int 1))) (.sim (.idx (.var 2) (.int 2)))) .nil))))
  (.cons (.ret (.sim (.bl false)))
  .nil)
  .nil)
  (.cons (.set 3 (.sim (.idx (.var 2) (.int 3))))
  (.cons (.ite (.or_ (.cons (.not_ (.isi (.sim (.var 3)) "tuple")) (.cons (.not_ (.chain .le .le (.sim (.int 1)) (.sim (.len (.var 3))) (.sim (.glob "MAX_HELD")))) .nil)))
  (.cons (.ret (.sim (.bl false)))
  .nil)
  .nil)
  (.cons (.ite (.not_ (.bltv .all (.lc (.call "is_integer" (.cons (.sim (.var 4)) (.cons (.sim (.int 0)) (.cons (.bin .sub (.sim (.var 1)) (.sim (.int 1))) .nil)))) (.name 4) (.seq (.sim (.var 3))) .non [4])))
  (.cons (.ret (.sim (.bl false)))
  .nil)
  .nil)
  (.cons (.ret (.bltv .all (.lc (.cmp .lt (.sim (.var 5)) (.sim (.var 6))) (.tup (.cons (.name 5) (.cons (.name 6) .nil))) (.zip (.sim (.var 3)) (.slice (.sim (.var 3)) (.som (.sim (.int 1))) .non)) .non [5, 6])))
  .nil))))))
def isIB (lo hi : Int) : PyData → Bool
  | .int n => decide (lo ≤ n) && decide (n ≤ hi)
  | _ => false
def ltI : PyData → PyData → Bool
  | .int a, .int b => decide (a < b)
  | _, _ => false
def prsB (ps : List PyData) : Bool := (List.zipWith ltI ps (ps.drop 1)).all id
def packsB (pk : Int) : PyData → Bool
  | .tuple ps => decide (1 ≤ ps.length) && decide (ps.length ≤ 4) && ps.all (isIB 0 (pk - 1)) && prsB ps
  | _ => false
def vsB (pr pk : Int) : PyData → Bool
  | .tuple [t, n, e, p] => isIB 0 14 t && (isIB 0 (pr - 1) n && isIB 0 (pr - 1) e && !PyData.eqv n e) && packsB pk p
  | _ => false
def spIsI : FS := fun xs Q => ∃ (v : PyData) (lo hi : Int), xs = [.d v, .d (.int lo), .d (.int hi)] ∧ ∀ rest, Q (.d (.bool (isIB lo hi v))) rest
theorem ok_isI {Γ : Gam} {Φ : Phi} : ∀ xs Q, spIsI xs Q → fsOf Γ Φ 3 3 bIsInt xs Q := by
  rintro xs Q ⟨v, lo, hi, rfl, hq⟩
  cases v with
  | int v =>
    refine ⟨rfl, ?_⟩
    rw [bIsInt, r_cons]
    simp_arith
    show wIfL false _ _
    rw [if_ff]
    show wIfL false _ _
    rw [if_ff]
    rw [r_cons]
    simp_arith [frzT, isNonD, f_d]
    by_cases h : lo ≤ v
    · rw [decide_eq_true h, if_tt]
      have hq : ∀ rest, Q (.d (.bool (decide (lo ≤ v) && decide (v ≤ hi)))) rest := hq
      simp only [decide_eq_true h, Bool.true_and] at hq
      exact hq _
    · rw [decide_eq_false h, if_ff]
      have hq : ∀ rest, Q (.d (.bool (decide (lo ≤ v) && decide (v ≤ hi)))) rest := hq
      simp only [decide_eq_false h, Bool.false_and] at hq
      exact hq _
  | bool b =>
    refine ⟨rfl, ?_⟩
    rw [bIsInt, r_cons]
    simp_arith
    show wIfL false _ _
    rw [if_ff]
    show wIfL true _ _
    rw [if_tt]
    simp_arith only
    exact hq _
  | _ =>
    refine ⟨rfl, ?_⟩
    rw [bIsInt, r_cons]
    simp_arith
    show wIfL true _ _
    rw [if_tt]
    simp_arith only
    exact hq _
def feIsI : FE := ⟨["value", "low", "high"], [], none, spIsI⟩
theorem isIB_int {lo hi : Int} {v : PyData} (h : isIB lo hi v = true) : ∃ n : Int, v = .int n ∧ lo ≤ n ∧ n ≤ hi := by
  cases v with
  | int n =>
    have h : (decide (lo ≤ n) && decide (n ≤ hi)) = true := h
    rw [Bool.and_eq_true, decide_eq_true_eq, decide_eq_true_eq] at h
    exact ⟨n, rfl, h.1, h.2⟩
  | _ => cases h
theorem ints_ofI {lo hi : Int} : ∀ {ps : List PyData}, ps.all (isIB lo hi) = true → ∃ ns : List Int, ps = ns.map .int ∧ ∀ p ∈ ns, lo ≤ p ∧ p ≤ hi
  | [], _ => ⟨[], rfl, fun _ z => nomatch z⟩
  | p :: ps, h => by
    rw [List.all_cons, Bool.and_eq_true] at h
    obtain ⟨n, rfl, h1, h2⟩ := isIB_int h.1
    obtain ⟨ns, rfl, h3⟩ := ints_ofI h.2
    refine ⟨n :: ns, rfl, fun q hq => ?_⟩
    rcases List.mem_cons.mp hq with rfl | hq
    · exact ⟨h1, h2⟩
    · exact h3 q hq
theorem prs_ints : ∀ {ns : List Int}, prsB (ns.map .int) = true → ns.Pairwise (· < ·)
  | [], _ => List.Pairwise.nil
  | [_], _ => List.pairwise_singleton _ _
  | a :: b :: l, h => by
    have h : (decide (a < b) && prsB ((b :: l).map .int)) = true := h
    rw [Bool.and_eq_true, decide_eq_true_eq] at h
    have ih := prs_ints h.2
    refine List.pairwise_cons.mpr ⟨fun x hx => ?_, ih⟩
    rcases List.mem_cons.mp hx with rfl | hx
    · exact h.1
    · exact Int.lt_trans h.1 ((List.pairwise_cons.mp ih).1 x hx)
theorem vs_of {pr pk : Int} {s : PyData} (h : vsB pr pk s = true) : VS pr pk s := by
  unfold vsB at h
  split at h
  · rename_i t n e p
    simp only [Bool.and_eq_true, Bool.not_eq_true'] at h
    obtain ⟨⟨h1, ⟨h2, h3⟩, h4⟩, h5⟩ := h
    obtain ⟨t, rfl, t1, t2⟩ := isIB_int h1
    obtain ⟨n, rfl, n1, n2⟩ := isIB_int h2
    obtain ⟨e, rfl, e1, e2⟩ := isIB_int h3
    unfold packsB at h5
    split at h5
    · rename_i ps
      simp only [Bool.and_eq_true, decide_eq_true_eq] at h5
      obtain ⟨⟨⟨p1, p2⟩, p3⟩, p4⟩ := h5
      obtain ⟨ns, rfl, q1⟩ := ints_ofI p3
      rw [List.length_map] at p1 p2
      refine ⟨t, n, e, ns, rfl, t1, t2, n1, by omega, e1, by omega, ?_, p1, p2, fun p hp => ?_, prs_ints p4⟩
      · have h4 : (n == e) = false := h4
        simpa using h4
      · have := q1 p hp
        omega
    · cases h5
  · cases h
/-- bools that are told one by one -/
theorem b_allL {bs : List Bool} {R : Tv → Prop} (h : R (.d (.bool (bs.all id)))) : bltO .all [.own ((bs.map PyData.bool).map Tv.d)] R := ⟨_, _, _, rfl, f_own, bools_mapV _, h⟩
theorem b_anyL {bs : List Bool} {R : Tv → Prop} (h : R (.d (.bool (bs.any id)))) : bltO .any [.own ((bs.map PyData.bool).map Tv.d)] R := ⟨_, _, _, rfl, f_own, bools_mapV _, h⟩
theorem isi_tup (v : PyData) : (∃ xs, v = .tuple xs) ∨ (isiD v (Str.ofString "tuple") = false ∧ ∀ xs, v ≠ .tuple xs) := by
  cases v with
  | tuple xs => exact .inl ⟨xs, rfl⟩
  | bool b => exact .inr ⟨rfl, fun _ z => nomatch z⟩
  | int b => exact .inr ⟨rfl, fun _ z => nomatch z⟩
  | str b => exact .inr ⟨rfl, fun _ z => nomatch z⟩
  | list b => exact .inr ⟨rfl, fun _ z => nomatch z⟩
  | none => exact .inr ⟨rfl, fun _ z => nomatch z⟩
  | dict b => exact .inr ⟨rfl, fun _ z => nomatch z⟩
theorem isi_t (xs : List PyData) : isiD (.tuple xs) (Str.ofString "tuple") = true := rfl
theorem vs_no {pr pk : Int} {v : PyData} (h : ∀ t n e p, v ≠ .tuple [t, n, e, p]) : vsB pr pk v = false := by
  unfold vsB
  split
  · exact absurd rfl (h _ _ _ _)
  · rfl
theorem vs_four {pr pk : Int} {t n e p : PyData} : vsB pr pk (.tuple [t, n, e, p]) = (isIB 0 14 t && (isIB 0 (pr - 1) n && isIB 0 (pr - 1) e && !PyData.eqv n e) && packsB pk p) := rfl
theorem packs_no {pk : Int} {v : PyData} (h : ∀ xs, v ≠ .tuple xs) : packsB pk v = false := by
  unfold packsB
  split
  · exact absurd rfl (h _)
  · rfl
theorem packs_t {pk : Int} {ps : List PyData} : packsB pk (.tuple ps) = (decide (1 ≤ ps.length) && decide (ps.length ≤ 4) && ps.all (isIB 0 (pk - 1)) && prsB ps) := rfl
theorem four {xs : List PyData} (h : xs.length = 4) : ∃ t n e p, xs = [t, n, e, p] := by
  match xs, h with
  | [t, n, e, p], _ => exact ⟨t, n, e, p, rfl⟩
def spIsS : FS := fun xs Q => ∃ (pr pk : Int) (s : PyData), xs = [.d (.int pr), .d (.int pk), .d s] ∧ ∀ rest, Q (.d (.bool (vsB pr pk s))) rest
theorem ok_isS {Γ : Gam} {Φ : Phi} (g1 : Γ "MAX_ROUNDS" = some (.int 15)) (g2 : Γ "MAX_HELD" = some (.int 4)) (hI : Φ "is_integer" = some feIsI) : ∀ xs Q, spIsS xs Q → fsOf Γ Φ 3 7 bIsSit xs Q := by
  rintro xs Q ⟨pr, pk, s, rfl, hq⟩
  refine ⟨rfl, ?_⟩
  rw [bIsSit, r_cons]
  simp_arith [g1, q_call hI rfl, argsQ3, feIsI]
  rcases isi_tup s with ⟨xs, rfl⟩ | ⟨e, hs⟩
  case inr =>
    rw [vs_no fun t n e p => hs _] at hq
    simp_arith only [e, Bool.not_false, if_tt]
    exact hq _
  simp_arith [isi_t, Bool.not_true, if_ff]
  by_cases h4 : xs.length = 4
  case neg =>
    rw [vs_no fun t n e p z => h4 (by cases z; rfl)] at hq
    have e : (!(((xs.length : Nat) : Int) == 4)) = true := by
      rw [Bool.not_eq_true', beq_eq_false_iff_ne]
      omega
    simp_arith only [e, if_tt]
    exact hq _
  obtain ⟨t, n, e, p, rfl⟩ := four h4
  show wIfL false _ _
  rw [if_ff]
  simp_arith [at0, argsQ3, feIsI]
  refine ⟨t, 0, _, rfl, fun rest => ⟨_, rfl, ?_⟩⟩
  show wIfL (!isIB 0 14 t) _ _
  rw [vs_four] at hq
  cases ht : isIB 0 14 t with
  | false =>
    rw [ht] at hq
    simp_arith only [Bool.not_false, if_tt]
    exact hq _
  | true =>
  rw [ht] at hq
  simp_arith [Bool.not_true, if_ff]
  rw [r_cons]
  simp_arith [at1, at2, q_call hI rfl, argsQ3, feIsI]
  refine ⟨n, 0, _, rfl, fun rest => ⟨_, rfl, ?_⟩⟩
  cases hn : isIB 0 (pr - 1) n with
  | false =>
    rw [hn] at hq
    simp_arith only [Bool.not_false, if_tt]
    exact hq _
  | true =>
  rw [hn] at hq
  obtain ⟨n, rfl, n1, n2⟩ := isIB_int hn
  simp_arith [Bool.not_true, if_ff, argsQ3, feIsI]
  refine ⟨e, 0, _, rfl, fun rest => ⟨_, rfl, ?_⟩⟩
  cases he : isIB 0 (pr - 1) e with
  | false =>
    rw [he] at hq
    simp_arith only [Bool.not_false, if_tt]
    exact hq _
  | true =>
  rw [he] at hq
  obtain ⟨e, rfl, e1, e2⟩ := isIB_int he
  simp_arith [Bool.not_true, if_ff]
  have hq : ∀ rest, Q (.d (.bool (!(n == e) && packsB pk p))) rest := fun rest => by
    have := hq rest
    rwa [Bool.true_and, Bool.true_and, Bool.true_and] at this
  refine if_l (fun hne => ?_) fun hne => ?_
  · rw [hne] at hq
    simp_arith only
    exact hq _
  rw [hne] at hq
  have hq : ∀ rest, Q (.d (.bool (packsB pk p))) rest := fun rest => hq rest
  show wSL Γ Φ _ _ _
  rw [r_cons]
  simp_arith [at3]
  rw [r_cons]
  simp_arith
  rcases isi_tup p with ⟨ps, rfl⟩ | ⟨e, hs⟩
  case inr =>
    rw [packs_no hs] at hq
    simp_arith only [e, Bool.not_false, if_tt]
    exact hq _
  rw [packs_t] at hq
  simp_arith [isi_t, g2, Bool.not_true, if_ff]
  by_cases h8 : 1 ≤ ps.length
  case neg =>
    rw [decide_eq_false h8] at hq
    rw [show decide ((1 : Int) ≤ (ps.length : Nat)) = false from decide_eq_false (by omega)]
    simp_arith only [if_ff, if_tt, Bool.not_false]
    exact hq _
  by_cases h9 : ps.length ≤ 4
  case neg =>
    rw [decide_eq_false h9] at hq
    rw [show decide ((1 : Int) ≤ (ps.length : Nat)) = true from decide_eq_true (by omega), show decide (((ps.length : Nat) : Int) ≤ 4) = false from decide_eq_false (by omega)]
    simp_arith only [if_ff, if_tt, Bool.not_false]
    simpa using hq _
  rw [decide_eq_true h8, decide_eq_true h9] at hq
  rw [show decide ((1 : Int) ≤ (ps.length : Nat)) = true from decide_eq_true (by omega), show decide (((ps.length : Nat) : Int) ≤ 4) = true from decide_eq_true (by omega)]
  simp_arith [if_ff, if_tt, Bool.not_true]
  show wSL Γ Φ _ _ _
  rw [r_cons]
  simp_arith [q_call hI rfl, argsQ3, feIsI]
  have em : ps = ps.map id := (List.map_id ps).symm
  rw [em]
  refine lc_m1 (v := 4) (fun x => .bool (isIB 0 (pk - 1) x)) (by omega) rfl rfl (by simp) (fun x hx R z => ?_) ?_
  · simp_arith [q_call hI rfl, argsQ3, feIsI]
    exact ⟨x, 0, _, rfl, fun rest => z⟩
  rw [List.map_id, show ps.map (fun x => PyData.bool (isIB 0 (pk - 1) x)) = (ps.map (isIB 0 (pk - 1))).map PyData.bool from by rw [List.map_map]; rfl]
  refine b_allL ?_
  simp_arith
  have e4 : (ps.map (isIB 0 (pk - 1))).all id = ps.all (isIB 0 (pk - 1)) := by rw [List.all_map]; rfl
  rw [e4]
  cases hp : ps.all (isIB 0 (pk - 1)) with
  | false =>
    rw [hp] at hq
    simp_arith only [Bool.not_false, if_tt]
    exact hq _
  | true =>
  rw [hp] at hq
  have hq : ∀ rest, Q (.d (.bool (prsB ps))) rest := fun rest => hq rest
  obtain ⟨ns, rfl, hns⟩ := ints_ofI hp
  rw [Bool.not_true, if_ff]
  rw [r_cons]
  simp_arith [s_tup]
  have hcut : cutD (ns.map PyData.int) (some 1) none = (ns.map PyData.int).drop 1 := cut_from5 (ns.map PyData.int) 1
  rw [hcut]
  have ez : List.zipWith (fun p q => PyData.tuple [p, q]) (ns.map PyData.int) ((ns.map PyData.int).drop 1) = (ns.zip (ns.drop 1)).map fun z => PyData.tuple [.int z.1, .int z.2] := by
    rw [← List.map_drop, List.zipWith_map, List.zip, List.map_zipWith]
  rw [ez]
  rw [List.length_map] at h9
  refine lc_m (fun z : Int × Int => [some (.d (.int pr)), some (.d (.int pk)), some (.d (.tuple [t, .int n, .int e, .tuple (ns.map .int)])), some (.d (.tuple (ns.map .int))), none, some (.d (.int z.1)), some (.d (.int z.2))]) (fun z => .bool (decide (z.1 < z.2))) ?_ rfl rfl (fun x hx R z => ?_) (fun x hx => rfl) (fun x hx R z => ?_) ?_
  · rw [List.length_zip, List.length_drop]
    omega
  · simp_arith
    exact z
  · simp_arith
    exact z
  rw [show (ns.zip (ns.drop 1)).map (fun z : Int × Int => PyData.bool (decide (z.1 < z.2))) = ((ns.zip (ns.drop 1)).map fun z => decide (z.1 < z.2)).map PyData.bool from by rw [List.map_map]; rfl]
  refine b_allL ?_
  have e5 : ((ns.zip (ns.drop 1)).map fun z : Int × Int => decide (z.1 < z.2)) = List.zipWith ltI (ns.map PyData.int) ((ns.map PyData.int).drop 1) := by
    rw [← List.map_drop, List.zipWith_map, List.zip, List.map_zipWith]
    rfl
  rw [e5]
  exact hq _
def feIsS : FE := ⟨["pairs", "packs", "value"], [], none, spIsS⟩
end Tr
set_option Elab.async false
set_option linter.all false
set_option maxRecDepth 100000
set_option maxHeartbeats 1000000
set_option exponentiation.threshold 3000
namespace Tr
open PySem PySem.Spec PyProof.Rows L2
def S4 (s : PyData) : Prop := ∃ (t n e : Int) (ps : List Int), s = sitD t n e ps ∧ ps.length ≤ 8
theorem VS.s4 {pr pk : Int} {s : PyData} (h : VS pr pk s) : S4 s := by
  obtain ⟨t, n, e, ps, rfl, a1, a2, a3, a4, a5, a6, a7, a8, a9, a10, _⟩ := h
  exact ⟨t, n, e, ps, rfl, by omega⟩
def bShPair : SL := (.cons (.ret (.or_ (.cons (.cmp .inn (.sim (.idx (.var 0) (.int 1))) (.slice (.sim (.var 1)) (.som (.sim (.int 1))) (.som (.sim (.int 3))))) (.cons (.cmp .inn (.sim (.idx (.var 0) (.int 2))) (.slice (.sim (.var 1)) (.som (.sim (.int 1))) (.som (.sim (.int 3))))) .nil))))
  .nil)
def spShPair : FS := fun xs Q => ∃ (a b : PyData), xs = [.d a, .d b] ∧ S4 a ∧ S4 b ∧ ∀ rest, Q (.d (.bool (shPz a b))) rest
theorem ok_shPair {Γ : Gam} {Φ : Phi} : ∀ xs Q, spShPair xs Q → fsOf Γ Φ 2 2 bShPair xs Q := by
  rintro xs Q ⟨a, b, rfl, ha, hb, hq⟩
  refine ⟨rfl, ?_⟩
  obtain ⟨t, n, e, ps, rfl, _⟩ := ha
  obtain ⟨t', n', e', ps', rfl, _⟩ := hb
  have hq : ∀ rest, Q (.d (.bool ((n' == n || e' == n) || (n' == e || e' == e)))) rest := hq
  rw [bShPair, r_cons]
  simp_arith [sitD, at1, at2, s_tup, cut13]
  refine c_inT rfl rfl ?_
  rw [any_in]
  refine if_l (fun h => ?_) fun h => ?_
  · rw [h] at hq
    exact hq _
  · rw [h] at hq
    refine c_inT rfl rfl ?_
    rw [any_in]
    exact hq _
def feShPair : FE := ⟨["one", "other"], [], none, spShPair⟩
def bShPack : SL := (.cons (.ret (.bltv .any (.lc (.cmp .inn (.sim (.var 2)) (.sim (.idx (.var 1) (.int 3)))) (.name 2) (.seq (.sim (.idx (.var 0) (.int 3)))) .non [2])))
  .nil)
def spShPack : FS := fun xs Q => ∃ (a b : PyData), xs = [.d a, .d b] ∧ S4 a ∧ S4 b ∧ ∀ rest, Q (.d (.bool (shKz a b))) rest
theorem ok_shPack {Γ : Gam} {Φ : Phi} : ∀ xs Q, spShPack xs Q → fsOf Γ Φ 2 3 bShPack xs Q := by
  rintro xs Q ⟨a, b, rfl, ha, hb, hq⟩
  refine ⟨rfl, ?_⟩
  obtain ⟨t, n, e, ps, rfl, hl⟩ := ha
  obtain ⟨t', n', e', ps', rfl, _⟩ := hb
  rw [bShPack, r_cons]
  simp_arith [sitD, at3]
  refine lc_m1 (v := 2) (fun p => .bool ((ps'.map PyData.int).any fun q => PyData.eqv q (.int p))) (by omega) rfl rfl (by simp) (fun x hx R z => ?_) ?_
  · simp_arith [sitD, at3]
    exact c_inT (shal_int _ _) (shal_ints 29 ps') z
  rw [show ps.map (fun p => PyData.bool ((ps'.map PyData.int).any fun q => PyData.eqv q (.int p))) = (ps.map fun p => (ps'.map PyData.int).any fun q => PyData.eqv q (.int p)).map PyData.bool from by rw [List.map_map]; rfl]
  refine b_anyL ?_
  have e : ((ps.map fun p => (ps'.map PyData.int).any fun q => PyData.eqv q (.int p)).any id) = shKz (sitD t n e ps) (sitD t' n' e' ps') := by
    rw [List.any_map]
    show _ = (ps.map PyData.int).any fun p => (ps'.map PyData.int).any fun q => PyData.eqv q p
    rw [List.any_map]
    rfl
  rw [e]
  exact hq _
def feShPack : FE := ⟨["one", "other"], [], none, spShPack⟩
def bwD (s : PyData) (os : List PyData) : PyData :=
  if (os.filter (shPz s)).any (fun o => rdS o == rdS s) then .str "pair" else if (os.filter (shPz s)).any (shKz s) then .str "again" else .none
def bBeside : SL := (.cons (.set 2 (.lc (.sim (.var 3)) (.name 3) (.seq (.sim (.var 1))) (.som (.call "shares_pair" (.cons (.sim (.var 0)) (.cons (.sim (.var 3)) .nil)))) [3]))
  (.cons (.ite (.bltv .any (.lc (.cmp .eq (.sim (.idx (.var 3) (.int 0))) (.sim (.idx (.var 0) (.int 0)))) (.name 3) (.seq (.sim (.var 2))) .non [3]))
  (.cons (.ret (.sim (.str "pair")))
  .nil)
  .nil)
  (.cons (.ret (.ite (.bltv .any (.lc (.call "shares_pack" (.cons (.sim (.var 0)) (.cons (.sim (.var 3)) .nil))) (.name 3) (.seq (.sim (.var 2))) .non [3])) (.sim (.str "again")) (.sim .non)))
  .nil)))
def spBeside : FS := fun xs Q => ∃ (s : PyData) (os : List PyData), xs = [.d s, .d (.tuple os)] ∧ S4 s ∧ (∀ o ∈ os, S4 o) ∧ os.length ≤ 60 ∧ ∀ rest, Q (.d (bwD s os)) rest
theorem ok_beside {Γ : Gam} {Φ : Phi} (hA : Φ "shares_pair" = some feShPair) (hB : Φ "shares_pack" = some feShPack) : ∀ xs Q, spBeside xs Q → fsOf Γ Φ 2 4 bBeside xs Q := by
  rintro xs Q ⟨s, os, rfl, hs, hos, hl, hq⟩
  refine ⟨rfl, ?_⟩
  rw [bBeside, r_cons]
  simp_arith [q_call hA rfl, args22, feShPair]
  have em : os = os.map id := (List.map_id os).symm
  rw [em]
  refine lc_fm1 (v := 3) (shPz s) id (by omega) rfl rfl (by simp) (fun x hx R z => ?_) (fun x hx hb R z => ?_) ?_
  · simp_arith [q_call hA rfl, args22, feShPair]
    exact ⟨s, x, rfl, hs, hos x hx, fun rest => ⟨_, rfl, z⟩⟩
  · simp_arith
    exact z
  rw [List.map_id, List.map_id]
  have hm : ∀ o ∈ os.filter (shPz s), S4 o := fun o ho => hos o (List.mem_filter.mp ho).1
  have hml : (os.filter (shPz s)).length ≤ 60 := Nat.le_trans (List.length_filter_le _ _) hl
  unfold bwD at hq
  generalize os.filter (shPz s) = ms at hm hml hq ⊢
  simp_arith
  rw [r_cons]
  have f0 : (Tv.own (ms.map .d)).frz = some (.list ms) := f_own
  simp_arith [f0]
  have em : ms = ms.map id := (List.map_id ms).symm
  rw [em]
  refine lc_m1 (v := 3) (fun o => .bool (rdS o == rdS s)) (by omega) rfl rfl (by simp) (fun x hx R z => ?_) ?_
  · obtain ⟨t, n, e, ps, rfl, _⟩ := hs
    obtain ⟨t', n', e', ps', rfl, _⟩ := hm x hx
    simp_arith [id_eq, sitD, at0]
    exact z
  rw [List.map_id, show ms.map (fun o => PyData.bool (rdS o == rdS s)) = (ms.map fun o => rdS o == rdS s).map PyData.bool from by rw [List.map_map]; rfl]
  refine b_anyL ?_
  rw [List.any_map]
  simp_arith
  have e1 : (ms.any (id ∘ fun o => rdS o == rdS s)) = ms.any fun o => rdS o == rdS s := rfl
  rw [e1]
  cases h1 : ms.any fun o => rdS o == rdS s with
  | true =>
    rw [h1] at hq
    simp_arith only [if_tt]
    exact hq _
  | false =>
  rw [h1] at hq
  rw [if_ff]
  rw [r_cons]
  simp_arith [q_call hB rfl, args22, feShPack]
  rw [em]
  refine lc_m1 (v := 3) (fun o => .bool (shKz s o)) (by omega) rfl rfl (by simp) (fun x hx R z => ?_) ?_
  · simp_arith [q_call hB rfl, args22, feShPack]
    exact ⟨s, x, rfl, hs, hm x hx, fun rest => z⟩
  rw [List.map_id, show ms.map (fun o => PyData.bool (shKz s o)) = (ms.map fun o => shKz s o).map PyData.bool from by rw [List.map_map]; rfl]
  refine b_anyL ?_
  rw [List.any_map]
  have e2 : (ms.any (id ∘ fun o => shKz s o)) = ms.any (shKz s) := rfl
  rw [e2]
  simp_arith
  cases h2 : ms.any (shKz s) with
  | true =>
    rw [h2] at hq
    simp_arith only [if_tt]
    exact hq _
  | false =>
    rw [h2] at hq
    simp_arith only [if_ff]
    exact hq _
def feBeside : FE := ⟨["sitting", "others"], [], none, spBeside⟩
def iwD (pr pk : Int) (ss : List PyData) (k : Nat) : PyData := match ss[k]? with
  | some s => if vsB pr pk s then (if decide (0 < k) && !PySem.W.dataLt (ss[k - 1]?.getD .none) s then .str "order" else bwD s (ss.take k)) else .str "sitting"
  | none => .none
def bItem : SL := (.cons (.set 4 (.sim (.idx (.var 2) (.var 3))))
  (.cons (.ite (.not_ (.call "is_sitting" (.cons (.sim (.var 0)) (.cons (.sim (.var 1)) (.cons (.sim (.var 4)) .nil)))))
  (.cons (.ret (.sim (.str "sitting")))
  .nil)
  .nil)
  (.cons (.ite (.and_ (.cons (.cmp .gt (.sim (.var 3)) (.sim (.int 0))) (.cons (.not_ (.cmp .lt (.sim (.idx (.var 2) (.sub (.var 3) (.int 1)))) (.sim (.var 4)))) .nil)))
  (.cons (.ret (.sim (.str "order")))
  .nil)
  .nil)
  (.cons (.ret (.call "beside_word" (.cons (.sim (.var 4)) (.cons (.slice (.sim (.var 2)) .non (.som (.sim (.var 3)))) .nil))))
  .nil))))
def spItem : FS := fun xs Q => ∃ (pr pk : Int) (ss : List PyData) (k : Nat), xs = [.d (.int pr), .d (.int pk), .d (.tuple ss), .d (.int (k : Nat))] ∧ (∀ s ∈ ss.take k, VS pr pk s) ∧ k < ss.length ∧ ss.length ≤ 60 ∧ ∀ rest, Q (.d (iwD pr pk ss k)) rest
theorem ok_item {Γ : Gam} {Φ : Phi} (hS : Φ "is_sitting" = some feIsS) (hB : Φ "beside_word" = some feBeside) : ∀ xs Q, spItem xs Q → fsOf Γ Φ 4 5 bItem xs Q := by
  rintro xs Q ⟨pr, pk, ss, k, rfl, hP, hk, hlen, hq⟩
  refine ⟨rfl, ?_⟩
  have hat : atI ss (k : Nat) = some ss[k] := atI_nat (List.getElem?_eq_getElem hk)
  unfold iwD at hq
  rw [List.getElem?_eq_getElem hk] at hq
  rw [bItem, r_cons]
  simp_arith [hat]
  rw [r_cons]
  simp_arith [q_call hS rfl, argsQ3, feIsS]
  refine ⟨pr, pk, _, rfl, fun rest => ⟨_, rfl, ?_⟩⟩
  cases hv : vsB pr pk ss[k] with
  | false =>
    simp only [hv] at hq
    simp_arith only [Bool.not_false, if_tt]
    exact hq _
  | true =>
  simp only [hv, if_true] at hq
  have hV := vs_of hv
  rw [Bool.not_true, if_ff]
  rw [r_cons]
  simp_arith
  have hrest : ∀ D : DE, (∀ ρ, D.rt (.d (bwD ss[k] (ss.take k))) ρ) → wSL Γ Φ (.cons (.ret (.call "beside_word" (.cons (.sim (.var 4)) (.cons (.slice (.sim (.var 2)) .non (.som (.sim (.var 3)))) .nil)))) .nil) D [some (.d (.int pr)), some (.d (.int pk)), some (.d (.tuple ss)), some (.d (.int (k : Nat))), some (.d ss[k])] := fun D hD => by
    rw [r_cons]
    simp_arith [s_tup, q_call hB rfl, feBeside]
    rw [cut_toT5]
    simp_arith [args22]
    exact ⟨_, _, rfl, hV.s4, fun o ho => (hP o ho).s4, by rw [List.length_take]; omega, fun rest => hD _⟩
  by_cases h0 : (0 : Int) < (k : Nat)
  · rw [decide_eq_true h0, if_tt]
    have hat2 : atI ss (((k : Nat) : Int) - 1) = some ss[k - 1] := by
      rw [show ((k : Nat) : Int) - 1 = ((k - 1 : Nat) : Int) by omega]
      exact atI_nat (List.getElem?_eq_getElem (by omega))
    rw [List.getElem?_eq_getElem (show k - 1 < ss.length by omega), decide_eq_true (show 0 < k by omega), Option.getD_some, Bool.true_and] at hq
    have hv2 : Sit pr pk ss[k - 1] := (hP _ (by
      rw [List.mem_take_iff_getElem]
      exact ⟨k - 1, by omega, rfl⟩)).sit
    simp_arith [hat2]
    refine c_ltD (fun i z => ?_) (alike_sit hv2 hV.sit) (fun z => ?_) (shal_sit hv2 28) ?_
    · obtain ⟨t, n, e, ps, h, _⟩ := hv2
      rw [h] at z
      cases z
    · obtain ⟨t, n, e, ps, h, _⟩ := hv2
      rw [h] at z
      cases z
    cases hlt : PySem.W.dataLt ss[k - 1] ss[k] with
    | true =>
      simp only [hlt, Bool.not_true] at hq
      simp only [Bool.not_true, if_ff]
      exact hrest _ hq
    | false =>
      simp only [hlt, Bool.not_false] at hq
      simp_arith only [Bool.not_false, if_tt]
      exact hq _
  · rw [decide_eq_false h0, if_ff]
    rw [decide_eq_false (show ¬ 0 < k by omega), Bool.false_and] at hq
    exact hrest _ hq
def feItem : FE := ⟨["pairs", "packs", "sittings", "number"], [], none, spItem⟩
/-- the first word of the first n sittings -/
def wdL (pr pk : Int) (ss : List PyData) : Nat → PyData
  | 0 => .none
  | n + 1 => if isNonD (wdL pr pk ss n) then (if isNonD (iwD pr pk ss n) then .none else .tuple [.int (n : Nat), iwD pr pk ss n]) else wdL pr pk ss n
def noW (w : Str) : PyData := .tuple [.none, .str w]
def wdS (pr pk : Int) : PyData → PyData
  | .tuple ss => if decide (45 < ss.length) then noW "sittings" else wdL pr pk ss ss.length
  | _ => noW "sittings"
def wdP : PyData → PyData
  | .tuple [.int pr, .int pk, s] => if decide (2 ≤ pr) && decide (pr ≤ 10) then (if decide (1 ≤ pk) && decide (pk ≤ 20) then wdS pr pk s else noW "packs") else noW "pairs"
  | .tuple [.int pr, _, _] => if decide (2 ≤ pr) && decide (pr ≤ 10) then noW "packs" else noW "pairs"
  | .tuple [_, _, _] => noW "pairs"
  | _ => noW "plan"
theorem non_of {d : PyData} (h : isNonD d = true) : d = .none := by cases d <;> first | rfl | cases h
theorem iw_vs {pr pk : Int} {ss : List PyData} {k : Nat} {s : PyData} (hs : ss[k]? = some s) (h : isNonD (iwD pr pk ss k) = true) : VS pr pk s := by
  unfold iwD at h
  rw [hs] at h
  simp only at h
  cases hv : vsB pr pk s with
  | true => exact vs_of hv
  | false =>
    simp only [hv] at h
    cases h
theorem wdL_vs {pr pk : Int} {ss : List PyData} : ∀ {n : Nat}, isNonD (wdL pr pk ss n) = true → (∀ s ∈ ss.take n, VS pr pk s) ∧ ∀ k, k < n → isNonD (iwD pr pk ss k) = true
  | 0, _ => ⟨fun s hs => by (rw [List.take_zero] at hs; cases hs), fun k hk => by omega⟩
  | n + 1, h => by
    unfold wdL at h
    cases h1 : isNonD (wdL pr pk ss n) with
    | false =>
      rw [h1] at h
      simp only [Bool.false_eq_true, if_false, h1] at h
    | true =>
      simp only [h1, if_true] at h
      cases h2 : isNonD (iwD pr pk ss n) with
      | false =>
        simp only [h2, Bool.false_eq_true, if_false] at h
        cases h
      | true =>
        have ih := wdL_vs h1
        refine ⟨fun s hs => ?_, fun k hk => ?_⟩
        · rw [List.take_add_one] at hs
          rcases List.mem_append.mp hs with hs | hs
          · exact ih.1 s hs
          · cases h3 : ss[n]? with
            | none => rw [h3] at hs; cases hs
            | some x =>
              rw [h3] at hs
              have : s = x := by simpa using hs
              subst this
              exact iw_vs h3 h2
        · by_cases e : k = n
          · subst e
            exact h2
          · exact ih.2 k (by omega)
theorem wdL_stay {pr pk : Int} {ss : List PyData} {k : Nat} (h : isNonD (wdL pr pk ss k) = false) : ∀ m, wdL pr pk ss (k + m) = wdL pr pk ss k
  | 0 => rfl
  | m + 1 => by
    show wdL pr pk ss (k + m + 1) = _
    rw [wdL, wdL_stay h m, h]
    rfl
theorem wdL_hit {pr pk : Int} {ss : List PyData} {k n : Nat} (h : isNonD (wdL pr pk ss k) = true) (h2 : isNonD (iwD pr pk ss k) = false) (hk : k < n) : wdL pr pk ss n = .tuple [.int (k : Nat), iwD pr pk ss k] := by
  have e : wdL pr pk ss (k + 1) = .tuple [.int (k : Nat), iwD pr pk ss k] := by
    rw [wdL, h, h2]
    rfl
  obtain ⟨m, rfl⟩ : ∃ m, n = k + 1 + m := ⟨n - (k + 1), by omega⟩
  rw [wdL_stay (by rw [e]; rfl) m, e]
theorem wdL_step {pr pk : Int} {ss : List PyData} {k : Nat} (h : isNonD (wdL pr pk ss k) = true) (h2 : isNonD (iwD pr pk ss k) = true) : isNonD (wdL pr pk ss (k + 1)) = true := by
  rw [wdL, h, h2]
  rfl
theorem three {xs : List PyData} (h : xs.length = 3) : ∃ t n e, xs = [t, n, e] := by
  match xs, h with
  | [t, n, e], _ => exact ⟨t, n, e, rfl⟩
theorem wdP_no {v : PyData} (h : ∀ a b c, v ≠ .tuple [a, b, c]) : wdP v = noW "plan" := by
  unfold wdP
  split
  · exact absurd rfl (h _ _ _)
  · exact absurd rfl (h _ _ _)
  · exact absurd rfl (h _ _ _)
  · rfl
theorem wdP_pr {a b c : PyData} (h : isIB 2 10 a = false) : wdP (.tuple [a, b, c]) = noW "pairs" := by
  cases a with
  | int a =>
    have h : (decide (2 ≤ a) && decide (a ≤ 10)) = false := h
    cases b <;> (simp only [wdP, h]; rfl)
  | _ => rfl
theorem wdP_pk {a : Int} {b c : PyData} (h : isIB 2 10 (.int a) = true) (h2 : isIB 1 20 b = false) : wdP (.tuple [.int a, b, c]) = noW "packs" := by
  have h : (decide (2 ≤ a) && decide (a ≤ 10)) = true := h
  cases b with
  | int b =>
    have h2 : (decide (1 ≤ b) && decide (b ≤ 20)) = false := h2
    simp only [wdP, h, h2]
    rfl
  | _ => simp only [wdP, h]; rfl
theorem wdP_ss {a b : Int} {c : PyData} (h : isIB 2 10 (.int a) = true) (h2 : isIB 1 20 (.int b) = true) : wdP (.tuple [.int a, .int b, c]) = wdS a b c := by
  have h : (decide (2 ≤ a) && decide (a ≤ 10)) = true := h
  have h2 : (decide (1 ≤ b) && decide (b ≤ 20)) = true := h2
  simp only [wdP, h, h2]
  rfl
theorem wdS_no {a b : Int} {c : PyData} (h : ∀ xs, c ≠ .tuple xs) : wdS a b c = noW "sittings" := by
  unfold wdS
  split
  · exact absurd rfl (h _)
  · rfl
def bPlanErr : SL := (.cons (.ite (.or_ (.cons (.not_ (.isi (.sim (.var 0)) "tuple")) (.cons (.cmp .ne (.sim (.len (.var 0))) (.sim (.int 3))) .nil)))
  (.cons (.ret (.tup (.cons (.sim .non) (.cons (.sim (.str "plan")) .nil))))
  .nil)
  .nil)
  (.cons (.unp (.tup (.cons (.name 2) (.cons (.name 3) (.cons (.name 4) .nil)))) (.sim (.var 0)))
  (.cons (.ite (.not_ (.call "is_integer" (.cons (.sim (.var 2)) (.cons (.sim (.int 2)) (.cons (.sim (.glob "MAX_PAIRS")) .nil)))))
  (.cons (.ret (.tup (.cons (.sim .non) (.cons (.sim (.str "pairs")) .nil))))
  .nil)
  .nil)
  (.cons (.ite (.not_ (.call "is_integer" (.cons (.sim (.var 3)) (.cons (.sim (.int 1)) (.cons (.sim (.glob "MAX_PACKS")) .nil)))))
  (.cons (.ret (.tup (.cons (.sim .non) (.cons (.sim (.str "packs")) .nil))))
  .nil)
  .nil)
  (.cons (.ite (.or_ (.cons (.not_ (.isi (.sim (.var 4)) "tuple")) (.cons (.cmp .gt (.sim (.len (.var 4))) (.sim (.glob "MAX_SITTINGS"))) .nil)))
  (.cons (.ret (.tup (.cons (.sim .non) (.cons (.sim (.str "sittings")) .nil))))
  .nil)
  .nil)
  (.cons (.for_ (.name 1) (.rng .non (.sim (.len (.var 4))))
  (.cons (.set 5 (.call "item_word" (.cons (.sim (.var 2)) (.cons (.sim (.var 3)) (.cons (.sim (.var 4)) (.cons (.sim (.var 1)) .nil))))))
  (.cons (.ite (.notN (.sim (.var 5)))
  (.cons (.ret (.tup (.cons (.sim (.var 1)) (.cons (.sim (.var 5)) .nil))))
  .nil)
  .nil)
  .nil))
  [1, 5])
  (.cons (.ret (.sim .non))
  .nil)))))))
def spPlanErr : FS := fun xs Q => ∃ v : PyData, xs = [.d v] ∧ ∀ rest, Q (.d (wdP v)) rest
theorem ok_planErr {Γ : Gam} {Φ : Phi} (g1 : Γ "MAX_PAIRS" = some (.int 10)) (g2 : Γ "MAX_PACKS" = some (.int 20)) (g3 : Γ "MAX_SITTINGS" = some (.int 45)) (hI : Φ "is_integer" = some feIsI) (hW : Φ "item_word" = some feItem) : ∀ xs Q, spPlanErr xs Q → fsOf Γ Φ 1 6 bPlanErr xs Q := by
  rintro xs Q ⟨v, rfl, hq⟩
  refine ⟨rfl, ?_⟩
  rw [bPlanErr, r_cons]
  simp_arith
  rcases isi_tup v with ⟨xs, rfl⟩ | ⟨e, hs⟩
  case inr =>
    rw [wdP_no fun a b c => hs _] at hq
    simp_arith only [e, Bool.not_false, if_tt, fz2]
    exact hq _
  simp_arith [isi_t, Bool.not_true, if_ff]
  by_cases h3 : xs.length = 3
  case neg =>
    rw [wdP_no fun a b c z => h3 (by cases z; rfl)] at hq
    have e : (!(((xs.length : Nat) : Int) == 3)) = true := by
      rw [Bool.not_eq_true', beq_eq_false_iff_ne]
      omega
    simp_arith only [e, if_tt, fz2]
    exact hq _
  obtain ⟨a, b, c, rfl⟩ := three h3
  show wIfL false _ _
  rw [if_ff]
  rw [r_cons]
  simp_arith
  rw [r_cons]
  simp_arith [g1, q_call hI rfl, argsQ3, feIsI]
  refine ⟨a, 2, 10, rfl, fun rest => ⟨_, rfl, ?_⟩⟩
  cases ha : isIB 2 10 a with
  | false =>
    rw [wdP_pr ha] at hq
    simp_arith only [Bool.not_false, if_tt, fz2]
    exact hq _
  | true =>
  obtain ⟨a, rfl, _⟩ := isIB_int ha
  rw [Bool.not_true, if_ff, r_cons]
  simp_arith [g2, q_call hI rfl, argsQ3, feIsI]
  refine ⟨b, 1, 20, rfl, fun rest => ⟨_, rfl, ?_⟩⟩
  cases hb : isIB 1 20 b with
  | false =>
    rw [wdP_pk ha hb] at hq
    simp_arith only [Bool.not_false, if_tt, fz2]
    exact hq _
  | true =>
  obtain ⟨b, rfl, _⟩ := isIB_int hb
  rw [wdP_ss ha hb] at hq
  rw [Bool.not_true, if_ff, r_cons]
  simp_arith [g3]
  rcases isi_tup c with ⟨ss, rfl⟩ | ⟨e, hs⟩
  case inr =>
    rw [wdS_no hs] at hq
    simp_arith only [e, Bool.not_false, if_tt, fz2]
    exact hq _
  simp_arith [isi_t, Bool.not_true, if_ff]
  by_cases h45 : 45 < ss.length
  · have hq : ∀ rest, Q (.d (noW "sittings")) rest := fun rest => by
      have := hq rest
      rwa [wdS, decide_eq_true h45, if_pos rfl] at this
    rw [show decide ((45 : Int) < (ss.length : Nat)) = true from decide_eq_true (by omega), if_tt]
    simp_arith only [fz2]
    exact hq _
  have hq : ∀ rest, Q (.d (wdL a b ss ss.length)) rest := fun rest => by
    have := hq rest
    rwa [wdS, decide_eq_false h45, if_neg (by decide)] at this
  rw [show decide ((45 : Int) < (ss.length : Nat)) = false from decide_eq_false (by omega), if_ff]
  rw [r_cons]
  simp_arith
  refine ⟨by decide, by decide, by omega, by omega, fun k ρ => isNonD (wdL a b ss k) = true ∧ ρ = [some (.d (.tuple [.int a, .int b, .tuple ss])), none, some (.d (.int a)), some (.d (.int b)), some (.d (.tuple ss)), none], ⟨rfl, rfl⟩, ?_, ?_⟩
  · rintro k y ρ2 hy ⟨hno, rfl⟩
    have hk := (List.getElem?_eq_some_iff.mp hy).1
    simp only [List.length_map, List.length_range] at hk
    simp only [List.getElem?_map, List.getElem?_range hk, Option.map_some, Option.some.injEq] at hy
    subst hy
    simp_arith
    rw [r_cons]
    simp_arith [q_call hW rfl, argsQ4, feItem]
    refine ⟨a, b, ss, k, rfl, (wdL_vs hno).1, by omega, by omega, fun rest => ?_⟩
    simp_arith
    rw [r_cons]
    simp_arith [frzT]
    cases hw : isNonD (iwD a b ss k) with
    | true =>
      simp_arith only [Bool.not_true, if_ff]
      exact wdL_step hno hw
    | false =>
      rw [wdL_hit hno hw (show k < ss.length by omega)] at hq
      simp_arith only [Bool.not_false, if_tt, fz2]
      exact hq _
  · rintro ρ2 ⟨hno, rfl⟩
    simp only [List.length_map, List.length_range] at hno
    have e : ((ss.length : Nat) : Int).toNat = ss.length := by omega
    simp only [e] at hno
    rw [non_of hno] at hq
    simp_arith only
    exact hq _
def fePlanErr : FE := ⟨["value"], [["value"]], none, spPlanErr⟩
end Tr
set_option Elab.async false
set_option linter.all false
set_option maxRecDepth 100000
set_option maxHeartbeats 4000000
set_option exponentiation.threshold 3000
namespace Tr
open PySem PySem.Spec PyProof.Rows L2
def packIs (p : Int) : PyData → Bool
  | .tuple (.int q :: _) => q == p
  | _ => false
def sideD : PyData → PyData
  | .tuple [_, n, e] => .tuple [n, e]
  | d => d
def bPlaysOf : SL := (.cons (.ret (.lc (.tup (.cons (.sim (.var 3)) (.cons (.sim (.var 4)) .nil))) (.tup (.cons (.name 2) (.cons (.name 3) (.cons (.name 4) .nil)))) (.seq (.call "plays" (.cons (.sim (.var 0)) .nil))) (.som (.cmp .eq (.sim (.var 2)) (.sim (.var 1)))) [2, 3, 4]))
  .nil)
def spPlaysOf : FS := fun xs Q => ∃ pr pk ss, ∃ p : Int, xs = [.d (planD pr pk ss), .d (.int p)] ∧ PlanOk pr pk ss ∧ ∀ rest, Q (.own ((((playsL ss).filter (packIs p)).map sideD).map .d)) rest
theorem ok_playsOf {Γ : Gam} {Φ : Phi} (hP : Φ "plays" = some fePlays) : ∀ xs Q, spPlaysOf xs Q → fsOf Γ Φ 2 5 bPlaysOf xs Q := by
  rintro xs Q ⟨pr, pk, ss, p, rfl, hplan, hq⟩
  refine ⟨rfl, ?_⟩
  rw [bPlaysOf, r_cons]
  simp_arith [q_call hP rfl, args1, fePlays]
  refine ⟨pr, pk, ss, rfl, hplan, fun rest => ?_⟩
  simp_arith
  have hall := plays_all hplan
  have hlen := plays_len hplan
  generalize playsL ss = pl at hall hlen hq ⊢
  refine ⟨fun j acc ρ => acc = (((pl.take j).filter (packIs p)).map sideD).map Tv.d ∧ ρ = [some (.d (planD pr pk ss)), some (.d (.int p)), none, none, none], ⟨rfl, rfl⟩, ?_, ?_⟩
  · rintro j y acc ρ2 hy ⟨rfl, rfl⟩
    have hj := (List.getElem?_eq_some_iff.mp hy).1
    have hfl := List.length_filter_le (packIs p) (pl.take j)
    rw [List.length_take] at hfl
    obtain ⟨q, n, e, rfl, b1, b2, b3, b4, b5, b6⟩ := hall y (List.mem_of_getElem? hy)
    simp_arith only [tripD, List.length_map]
    refine ⟨fun hb => ⟨_, fz2, small64 (by omega), ?_⟩, fun hb => ?_⟩
    · rw [filter_st (packIs p) hy hb, List.map_append, List.map_append]
      rfl
    · rw [filter_sf (packIs p) hy hb]
  · rintro acc ρ2 ⟨rfl, rfl⟩
    simp_arith only [List.take_length]
    exact hq _
def fePlaysOf : FE := ⟨["plan", "pack"], [], none, spPlaysOf⟩
end Tr
set_option Elab.async false
set_option linter.all false
set_option maxRecDepth 100000
set_option maxHeartbeats 4000000
set_option exponentiation.threshold 3000
namespace Tr
open PySem PySem.Spec PyProof.Rows L2
end Tr
set_option Elab.async false
set_option linter.all false
set_option maxRecDepth 100000
set_option maxHeartbeats 4000000
namespace Tr
open PySem PySem.Spec PyProof.Rows L2
def ind (p : Prop) [Decidable p] : Int := if p then 1 else 0
theorem ind_and {p q : Prop} [Decidable p] [Decidable q] (v : Int) : (if p ∧ q then v else 0) = v * (ind p * ind q) := by
  unfold ind
  by_cases hp : p <;> by_cases hq : q <;> simp [hp, hq]
abbrev Adds := List (Nat × Nat × Int)
abbrev Prs := List (Nat × Nat)
def sumAdds (l : Adds) (a b : Nat) : Int := (l.map fun t => if a = t.1 ∧ b = t.2.1 then t.2.2 else 0).sum
theorem adds_append (l m : Adds) (a b : Nat) : sumAdds (l ++ m) a b = sumAdds l a b + sumAdds m a b := by
  unfold sumAdds
  rw [List.map_append, List.sum_append]
def bothL (n e : Nat) (v : Int) : Adds := [(n, e, v), (e, n, v)]
def sg (p : Nat × Nat) (a : Nat) : Int := ind (a = p.1) - ind (a = p.2)
def sm (p : Nat × Nat) (a b : Nat) : Int := ind (a = p.1) * ind (b = p.2) + ind (a = p.2) * ind (b = p.1)
theorem sum_both (n e : Nat) (v : Int) (a b : Nat) : sumAdds (bothL n e v) a b = v * sm (n, e) a b := by
  show (if a = n ∧ b = e then v else 0) + ((if a = e ∧ b = n then v else 0) + 0) = _
  rw [ind_and, ind_and]
  unfold sm
  grind
def crossL (p q : Nat × Nat) : Adds := bothL p.1 q.1 1 ++ bothL p.2 q.2 1 ++ bothL p.1 q.2 (-1) ++ bothL q.1 p.2 (-1)
theorem sum_cross (p q : Nat × Nat) (a b : Nat) : sumAdds (crossL p q) a b = sg p a * sg q b + sg q a * sg p b := by
  unfold crossL
  rw [adds_append, adds_append, adds_append, sum_both, sum_both, sum_both, sum_both]
  unfold sm sg
  generalize ind (a = p.1) = x1
  generalize ind (a = p.2) = x2
  generalize ind (a = q.1) = x3
  generalize ind (a = q.2) = x4
  generalize ind (b = p.1) = y1
  generalize ind (b = p.2) = y2
  generalize ind (b = q.1) = y3
  generalize ind (b = q.2) = y4
  grind
def sS (o : Prs) (a : Nat) : Int := (o.map fun p => sg p a).sum
def sM (o : Prs) (a b : Nat) : Int := (o.map fun p => sm p a b).sum
def sSS (o : Prs) (a b : Nat) : Int := (o.map fun p => sg p a * sg p b).sum
theorem sS_append (o u : Prs) (a : Nat) : sS (o ++ u) a = sS o a + sS u a := by
  unfold sS
  rw [List.map_append, List.sum_append]
theorem sM_append (o u : Prs) (a b : Nat) : sM (o ++ u) a b = sM o a b + sM u a b := by
  unfold sM
  rw [List.map_append, List.sum_append]
theorem sSS_append (o u : Prs) (a b : Nat) : sSS (o ++ u) a b = sSS o a b + sSS u a b := by
  unfold sSS
  rw [List.map_append, List.sum_append]
theorem sum_crosses (p : Nat × Nat) (a b : Nat) : ∀ o : Prs, sumAdds (o.flatMap (crossL p)) a b = sg p a * sS o b + sS o a * sg p b
  | [] => by
    show (0 : Int) = sg p a * 0 + 0 * sg p b
    grind
  | q :: o => by
    have e1 : ∀ c, sS (q :: o) c = sg q c + sS o c := fun _ => rfl
    rw [List.flatMap_cons, adds_append, sum_cross, sum_crosses p a b o, e1, e1]
    generalize sg p a = x1
    generalize sg p b = x2
    generalize sg q a = x3
    generalize sg q b = x4
    generalize sS o a = x5
    generalize sS o b = x6
    grind
def playAdds (L : Int) (own : Prs) (m : Nat) : Adds := match own[m]? with
  | some p => bothL p.1 p.2 L ++ (own.take m).flatMap (crossL p)
  | none => []
def progAdds (L : Int) (own : Prs) (k : Nat) : Adds := (List.range k).flatMap (playAdds L own)
theorem prog_sum (L : Int) (own : Prs) (a b : Nat) : ∀ k, k ≤ own.length → sumAdds (progAdds L own k) a b = L * sM (own.take k) a b + (sS (own.take k) a * sS (own.take k) b - sSS (own.take k) a b)
  | 0, _ => by
    rw [List.take_zero]
    show (0 : Int) = L * 0 + (0 * 0 - 0)
    grind
  | k + 1, h => by
    have hk : own[k]? = some own[k] := List.getElem?_eq_getElem (by omega)
    have ih := prog_sum L own a b k (by omega)
    have e1 : progAdds L own (k + 1) = progAdds L own k ++ playAdds L own k := by
      unfold progAdds
      rw [List.range_succ, List.flatMap_append, List.flatMap_cons, List.flatMap_nil, List.append_nil]
    have e2 : playAdds L own k = bothL own[k].1 own[k].2 L ++ (own.take k).flatMap (crossL own[k]) := by
      unfold playAdds
      rw [hk]
    have e3 : ∀ c, sS [own[k]] c = sg own[k] c := fun c => Int.add_zero _
    have e4 : sM [own[k]] a b = sm own[k] a b := Int.add_zero _
    have e5 : sSS [own[k]] a b = sg own[k] a * sg own[k] b := Int.add_zero _
    rw [e1, e2, adds_append, adds_append, sum_both, sum_crosses, ih, take_snoc hk, sS_append, sS_append, sM_append, sSS_append, e3, e3, e4, e5]
    have e6 : sm (own[k].1, own[k].2) a b = sm own[k] a b := rfl
    rw [e6]
    generalize sm own[k] a b = x0
    generalize sg own[k] a = x1
    generalize sg own[k] b = x2
    generalize sS (own.take k) a = x5
    generalize sS (own.take k) b = x6
    generalize sM (own.take k) a b = x7
    generalize sSS (own.take k) a b = x8
    grind
/-- how often two pairs are held against one another at the plays of a pack -/
def cell (own : Prs) (a b : Nat) : Int := ((own.length : Int) - 1) * sM own a b + (sS own a * sS own b - sSS own a b)
theorem prog_cell (own : Prs) (a b : Nat) : sumAdds (progAdds ((own.length : Int) - 1) own own.length) a b = cell own a b := by
  rw [prog_sum _ _ _ _ _ (Nat.le_refl _), List.take_length]
  rfl
def has (a : Nat) (p : Nat × Nat) : Bool := a == p.1 || a == p.2
structure OneSeat (own : Prs) : Prop where
  one : ∀ a, (own.filter (has a)).length ≤ 1
  ne : ∀ p ∈ own, p.1 ≠ p.2
theorem seat_of {own : Prs} (h : OneSeat own) (a : Nat) : own.filter (has a) = [] ∨ ∃ p, own.filter (has a) = [p] ∧ has a p = true ∧ p.1 ≠ p.2 := by
  have h1 := h.one a
  cases e : own.filter (has a) with
  | nil => exact .inl rfl
  | cons p ps =>
    cases ps with
    | cons q qs => rw [e] at h1; simp at h1
    | nil =>
      have hp : p ∈ own.filter (has a) := by rw [e]; simp
      have := List.mem_filter.mp hp
      exact .inr ⟨p, rfl, this.2, h.ne p this.1⟩
end Tr
set_option Elab.async false
set_option linter.all false
set_option maxRecDepth 100000
set_option maxHeartbeats 4000000
set_option exponentiation.threshold 3000
namespace Tr
open PySem PySem.Spec PyProof.Rows L2
abbrev TF := Nat → Nat → Int
def rowT (P : Nat) (g : Nat → Int) : Tv := .own ((List.range P).map fun j => .d (.int (g j)))
def matL (P : Nat) (f : TF) : List Tv := (List.range P).map fun i => rowT P (f i)
def rowD (P : Nat) (g : Nat → Int) : List PyData := (List.range P).map fun j => .int (g j)
theorem row_own (P : Nat) (g : Nat → Int) : rowT P g = .own ((rowD P g).map Tv.d) := by
  unfold rowT rowD
  rw [List.map_map]
  rfl
theorem row_frz (P : Nat) (g : Nat → Int) : (rowT P g).frz = some (.list (rowD P g)) := by
  rw [row_own]
  exact f_own
theorem mat_frzs (P : Nat) (f : TF) : ∀ l : List Nat, frzs (l.map fun i => rowT P (f i)) = some (l.map fun i => .list (rowD P (f i)))
  | [] => rfl
  | i :: l => by
    rw [List.map_cons]
    simp only [frzs, row_frz, mat_frzs P f l]
    rfl
def matD (P : Nat) (f : TF) : List PyData := (List.range P).map fun i => .list (rowD P (f i))
theorem mat_frz (P : Nat) (f : TF) : (Tv.own (matL P f)).frz = some (.list (matD P f)) := by
  simp only [Tv.frz]
  unfold matL matD
  rw [mat_frzs]
theorem mat_len (P : Nat) (f : TF) : (matL P f).length = P := by
  unfold matL
  rw [List.length_map, List.length_range]
theorem mat_get {P : Nat} (f : TF) {i : Nat} (h : i < P) : (matL P f)[i]? = some (rowT P (f i)) := by
  unfold matL
  rw [List.getElem?_map, List.getElem?_range h]
  rfl
theorem mat_at {P : Nat} (f : TF) {i : Nat} (h : i < P) : atI (matL P f) (i : Nat) = some (rowT P (f i)) := atI_nat (mat_get f h)
theorem row_at {P : Nat} (g : Nat → Int) {j : Nat} (h : j < P) : atI ((List.range P).map fun j => Tv.d (.int (g j))) (j : Nat) = some (.d (.int (g j))) := atI_nat (by
  rw [List.getElem?_map, List.getElem?_range h]
  rfl)
theorem map_set {α : Type} {P : Nat} (F : Nat → α) (i : Nat) (x : α) : ((List.range P).map F).set i x = (List.range P).map fun a => if a = i then x else F a := by
  refine List.ext_getElem (by simp) fun k h1 h2 => ?_
  simp only [List.length_set, List.length_map, List.length_range] at h1
  rw [List.getElem_set]
  simp only [List.getElem_map, List.getElem_range]
  by_cases h : i = k
  · rw [if_pos h, if_pos h.symm]
  · rw [if_neg h, if_neg (fun z => h z.symm)]
def setF (f : TF) (i j : Nat) (v : Int) : TF := fun a b => if a = i ∧ b = j then v else f a b
def addF (f : TF) (i j : Nat) (v : Int) : TF := fun a b => f a b + if a = i ∧ b = j then v else 0
theorem add_set (f : TF) (i j : Nat) (v : Int) : setF f i j (f i j + v) = addF f i j v := by
  funext a b
  unfold setF addF
  by_cases h : a = i ∧ b = j
  · rw [if_pos h, if_pos h, h.1, h.2]
  · rw [if_neg h, if_neg h, Int.add_zero]
theorem mat_set (P : Nat) (f : TF) (i j : Nat) (v : Int) : (matL P f).set i (.own (((List.range P).map fun b => Tv.d (.int (f i b))).set j (.d (.int v)))) = matL P (setF f i j v) := by
  unfold matL
  rw [map_set, map_set]
  refine List.map_congr_left fun a _ => ?_
  unfold rowT setF
  by_cases h : a = i
  · subst h
    rw [if_pos rfl]
    congr 1
    refine List.map_congr_left fun b _ => ?_
    by_cases h2 : b = j
    · rw [if_pos h2, if_pos ⟨rfl, h2⟩]
    · rw [if_neg h2, if_neg (fun z => h2 z.2)]
  · rw [if_neg h]
    congr 1
    refine List.map_congr_left fun b _ => ?_
    rw [if_neg (fun z => h z.1)]
theorem ixN_mat {P i : Nat} (f : TF) (h : i < P) : ixN (matL P f).length (i : Nat) = some i := by
  rw [mat_len]
  unfold ixN
  rw [if_pos (by omega), if_pos (by omega)]
  rfl
theorem ixN_row {P i : Nat} (g : Nat → Int) (h : i < P) : ixN ((List.range P).map fun b => Tv.d (.int (g b))).length (i : Nat) = some i := by
  rw [List.length_map, List.length_range]
  unfold ixN
  rw [if_pos (by omega), if_pos (by omega)]
  rfl
theorem mat_ext {P : Nat} {f g : TF} (h : ∀ a b, a < P → b < P → f a b = g a b) : matL P f = matL P g := by
  unfold matL rowT
  refine List.map_congr_left fun a ha => ?_
  congr 1
  refine List.map_congr_left fun b hb => ?_
  rw [h a b (List.mem_range.mp ha) (List.mem_range.mp hb)]
def addL (f : TF) (l : Adds) : TF := l.foldl (fun f t => addF f t.1 t.2.1 t.2.2) f
theorem addL_append (f : TF) (l m : Adds) : addL f (l ++ m) = addL (addL f l) m := List.foldl_append
theorem addL_val : ∀ (l : Adds) (f : TF) (a b : Nat), addL f l a b = f a b + sumAdds l a b
  | [], f, a, b => (Int.add_zero _).symm
  | t :: l, f, a, b => by
    show addL (addF f t.1 t.2.1 t.2.2) l a b = f a b + ((if a = t.1 ∧ b = t.2.1 then t.2.2 else 0) + sumAdds l a b)
    rw [addL_val l]
    unfold addF
    omega
def bAddBoth : SL := (.cons (.ix2 0 (.var 1) (.var 2) (.bin .add (.sim (.idx (.idx (.var 0) (.var 1)) (.var 2))) (.sim (.var 3))))
  (.cons (.ix2 0 (.var 2) (.var 1) (.bin .add (.sim (.idx (.idx (.var 0) (.var 2)) (.var 1))) (.sim (.var 3))))
  .nil))
def spAddBoth : FS := fun xs Q => ∃ (P : Nat) (f : TF) (i j : Nat) (v : Int), xs = [.own (matL P f), .d (.int (i : Nat)), .d (.int (j : Nat)), .d (.int v)] ∧ i < P ∧ j < P ∧ ∀ rest, Q (.d .none) (some (.own (matL P (addL f (bothL i j v)))) :: rest)
theorem ok_addBoth {Γ : Gam} {Φ : Phi} : ∀ xs Q, spAddBoth xs Q → fsOf Γ Φ 4 4 bAddBoth xs Q := by
  rintro xs Q ⟨P, f, i, j, v, rfl, hi, hj, hq⟩
  refine ⟨rfl, ?_⟩
  rw [bAddBoth, r_cons]
  simp_arith [mat_at f hi, rowT, row_at (f i) hj]
  refine ⟨i, ixN_mat f hi, _, mat_get f hi, j, ixN_row (f i) hj, ?_⟩
  rw [mat_set, add_set, r_cons]
  simp_arith [mat_at (addF f i j v) hj, rowT, row_at (addF f i j v j) hi]
  refine ⟨j, ixN_mat _ hj, _, mat_get _ hj, i, ixN_row _ hi, ?_⟩
  rw [mat_set, add_set]
  exact hq _
def feAddBoth : FE := ⟨["rows", "one", "other", "many"], [], some 0, spAddBoth⟩
def pairD (p : Nat × Nat) : PyData := .tuple [.int (p.1 : Nat), .int (p.2 : Nat)]
def bRowsOf : SL := (.cons (.set 2 (.lc (.bin .mul (.lst (.cons (.sim (.int 0)) .nil)) (.sim (.var 0))) (.name 4) (.rng .non (.sim (.var 0))) .non [4]))
  (.cons (.for_ (.tup (.cons (.name 3) (.cons (.tup (.cons (.name 5) (.cons (.name 6) .nil))) .nil))) (.enum (.sim (.var 1)))
  (.cons (.expr (.call "add_both" (.cons (.sim (.var 2)) (.cons (.sim (.var 5)) (.cons (.sim (.var 6)) (.cons (.bin .sub (.sim (.len (.var 1))) (.sim (.int 1))) .nil))))))
  (.cons (.for_ (.tup (.cons (.name 7) (.cons (.name 8) .nil))) (.seq (.slice (.sim (.var 1)) .non (.som (.sim (.var 3)))))
  (.cons (.expr (.call "add_both" (.cons (.sim (.var 2)) (.cons (.sim (.var 5)) (.cons (.sim (.var 7)) (.cons (.sim (.int 1)) .nil))))))
  (.cons (.expr (.call "add_both" (.cons (.sim (.var 2)) (.cons (.sim (.var 6)) (.cons (.sim (.var 8)) (.cons (.sim (.int 1)) .nil))))))
  (.cons (.expr (.call "add_both" (.cons (.sim (.var 2)) (.cons (.sim (.var 5)) (.cons (.sim (.var 8)) (.cons (.sim (.neg (.int 1))) .nil))))))
  (.cons (.expr (.call "add_both" (.cons (.sim (.var 2)) (.cons (.sim (.var 7)) (.cons (.sim (.var 6)) (.cons (.sim (.neg (.int 1))) .nil))))))
  .nil))))
  [7, 8])
  .nil))
  [3, 5, 6, 7, 8])
  (.cons (.retv 2)
  .nil)))
theorem zeros_flat0 : ∀ k : Nat, (List.replicate k [PyData.int 0]).flatten = (List.replicate k (0 : Int)).map .int
  | 0 => rfl
  | k + 1 => by
    rw [List.replicate_succ, List.replicate_succ, List.flatten_cons, List.map_cons, ← zeros_flat0 k]
    rfl
theorem mapIdx_at0 {xs : List PyData} {j : Nat} {y : PyData} (h : (xs.mapIdx fun k x => PyData.tuple [.int (k : Nat), x])[j]? = some y) : ∃ x, xs[j]? = some x ∧ y = .tuple [.int (j : Nat), x] := by
  rw [List.getElem?_mapIdx] at h
  obtain ⟨x, hx, rfl⟩ := Option.map_eq_some_iff.mp h
  exact ⟨x, hx, rfl⟩
theorem cut_to {α : Type} {xs : List α} {k : Nat} (h : k ≤ xs.length) : cutD xs none (some (k : Int)) = xs.take k := by
  unfold cutD
  rw [HT.sIx_none, HT.sIx_nat, Nat.min_eq_left h]
  rfl
def zeroF : TF := fun _ _ => 0
theorem zero_row (P : Nat) : Tv.own (((List.replicate P [PyData.int 0]).flatten).map Tv.d) = rowT P fun _ => 0 := by
  rw [zeros_flat0]
  unfold rowT
  congr 1
  rw [List.map_map]
  refine List.ext_getElem (by simp) fun k h1 h2 => by simp
def PrsIn (P : Nat) (own : Prs) : Prop := own.length ≤ 480 ∧ ∀ p ∈ own, p.1 < P ∧ p.2 < P
def spRowsOf : FS := fun xs Q => ∃ (P : Nat) (own : Prs), xs = [.d (.int (P : Nat)), .d (.list (own.map pairD))] ∧ P ≤ 10 ∧ PrsIn P own ∧ ∀ rest, Q (.own (matL P (cell own))) rest
theorem ok_rowsOf {Γ : Gam} {Φ : Phi} (hA : Φ "add_both" = some feAddBoth) : ∀ xs Q, spRowsOf xs Q → fsOf Γ Φ 2 9 bRowsOf xs Q := by
  rintro xs Q ⟨P, own, rfl, hP, hown, hq⟩
  refine ⟨rfl, ?_⟩
  obtain ⟨hlen, hin⟩ := hown
  rw [bRowsOf, r_cons]
  simp_arith
  refine ⟨by decide, by decide, by omega, by omega, fun j acc ρ => acc = (List.range j).map (fun _ => rowT P fun _ => 0) ∧ ρ = [some (.d (.int (P : Nat))), some (.d (.list (own.map pairD))), none, none, none, none, none, none, none], ⟨rfl, rfl⟩, ?_, ?_⟩
  · rintro j y acc ρ2 hy ⟨rfl, rfl⟩
    have hj := (List.getElem?_eq_some_iff.mp hy).1
    simp only [List.length_map, List.length_range] at hj
    simp_arith only [List.length_map, List.length_range]
    refine ⟨fun _ => ⟨[.int 0], fo1, by omega, by omega, by rw [sizeLine_eq]; exact Nat.le_trans (Nat.mul_le_mul_left 1 (show (P : Int).toNat ≤ 10 by omega)) (by decide), small64 (by omega), ?_⟩, fun z => (nomatch z)⟩
    rw [Int.toNat_natCast, zero_row, List.range_succ, List.map_append]
    rfl
  rintro acc ρ2 ⟨rfl, rfl⟩
  simp_arith [List.length_map, List.length_range]
  have hz : ((List.range (P : Int).toNat).map fun _ => rowT P fun _ => (0 : Int)) = matL P zeroF := by
    rw [Int.toNat_natCast]
    rfl
  rw [hz, r_cons]
  simp_arith
  refine ⟨fun k ρ => ρ = [some (.d (.int (P : Nat))), some (.d (.list (own.map pairD))), some (.own (matL P (addL zeroF (progAdds ((own.length : Int) - 1) own k)))), none, none, none, none, none, none], rfl, ?_, ?_⟩
  · rintro k y ρ2 hy rfl
    obtain ⟨t, ht, rfl⟩ := mapIdx_at0 hy
    rw [List.getElem?_map] at ht
    obtain ⟨p, hp, rfl⟩ := Option.map_eq_some_iff.mp ht
    obtain ⟨hp1, hp2⟩ := hin p (List.mem_of_getElem? hp)
    have hk := (List.getElem?_eq_some_iff.mp hp).1
    have hnext : addL zeroF (progAdds ((own.length : Int) - 1) own (k + 1)) = addL (addL (addL zeroF (progAdds ((own.length : Int) - 1) own k)) (bothL p.1 p.2 ((own.length : Int) - 1))) ((own.take k).flatMap (crossL p)) := by
      have e1 : progAdds ((own.length : Int) - 1) own (k + 1) = progAdds ((own.length : Int) - 1) own k ++ playAdds ((own.length : Int) - 1) own k := by
        unfold progAdds
        rw [List.range_succ, List.flatMap_append, List.flatMap_cons, List.flatMap_nil, List.append_nil]
      have e2 : playAdds ((own.length : Int) - 1) own k = bothL p.1 p.2 ((own.length : Int) - 1) ++ (own.take k).flatMap (crossL p) := by
        unfold playAdds
        rw [hp]
      rw [e1, e2, addL_append, addL_append]
    generalize addL zeroF (progAdds ((own.length : Int) - 1) own k) = F at hnext ⊢
    simp_arith [pairD]
    rw [r_cons]
    simp_arith [q_callO hA rfl, args33, feAddBoth, List.length_map]
    refine ⟨P, F, p.1, p.2, _, rfl, hp1, hp2, fun rest => ?_⟩
    simp_arith
    generalize addL F (bothL p.1 p.2 ((own.length : Int) - 1)) = F1 at hnext ⊢
    rw [r_cons]
    simp_arith
    refine ⟨_, rfl, _, f_own, _, rfl, ?_⟩
    rw [cut_to (by rw [List.length_map]; omega), ← List.map_take]
    refine ⟨fun m ρ => ρ = [some (.d (.int (P : Nat))), some (.d (.list (own.map pairD))), some (.own (matL P (addL F1 (((own.take k).take m).flatMap (crossL p))))), some (.d (.int (k : Nat))), none, some (.d (.int (p.1 : Nat))), some (.d (.int (p.2 : Nat))), none, none], rfl, ?_, ?_⟩
    · rintro m y ρ2 hy rfl
      rw [List.getElem?_map] at hy
      obtain ⟨q, hq', rfl⟩ := Option.map_eq_some_iff.mp hy
      obtain ⟨hq1, hq2⟩ := hin q (List.mem_of_mem_take (List.mem_of_getElem? hq'))
      have hnext2 : addL F1 (((own.take k).take (m + 1)).flatMap (crossL p)) = addL (addL (addL (addL (addL F1 (((own.take k).take m).flatMap (crossL p))) (bothL p.1 q.1 1)) (bothL p.2 q.2 1)) (bothL p.1 q.2 (-1))) (bothL q.1 p.2 (-1)) := by
        rw [take_snoc hq', List.flatMap_append, addL_append]
        show addL _ ((crossL p q) ++ []) = _
        rw [List.append_nil]
        unfold crossL
        rw [addL_append, addL_append, addL_append]
      generalize addL F1 (((own.take k).take m).flatMap (crossL p)) = F2 at hnext2 ⊢
      simp_arith [pairD]
      rw [r_cons]
      simp_arith [q_callO hA rfl, args33, feAddBoth]
      refine ⟨P, _, p.1, q.1, _, rfl, hp1, hq1, fun rest => ?_⟩
      simp_arith
      rw [r_cons]
      simp_arith [q_callO hA rfl, args33, feAddBoth]
      refine ⟨P, _, p.2, q.2, _, rfl, hp2, hq2, fun rest => ?_⟩
      simp_arith
      rw [r_cons]
      simp_arith [q_callO hA rfl, args33, feAddBoth]
      refine ⟨P, _, p.1, q.2, _, rfl, hp1, hq2, fun rest => ?_⟩
      simp_arith
      rw [r_cons]
      simp_arith [q_callO hA rfl, args33, feAddBoth]
      refine ⟨P, _, q.1, p.2, _, rfl, hq1, hp2, fun rest => ?_⟩
      simp_arith only
      rw [hnext2]
    · rintro ρ2 rfl
      rw [List.length_map, List.take_length]
      simp_arith only
      rw [hnext]
  · rintro ρ2 rfl
    simp_arith only [List.length_mapIdx, List.length_map]
    have e : matL P (addL zeroF (progAdds ((own.length : Int) - 1) own own.length)) = matL P (cell own) := mat_ext fun a b _ _ => by
      rw [addL_val, prog_cell]
      exact Int.zero_add _
    rw [e]
    exact hq _
end Tr
set_option Elab.async false
set_option linter.all false
set_option maxRecDepth 100000
set_option maxHeartbeats 4000000
set_option exponentiation.threshold 3000
namespace Tr
open PySem PySem.Spec PyProof.Rows L2
def neT0 : PyData → Bool
  | .tuple [_, .int n, .int e] => !(n == e)
  | _ => false
theorem plays_ne0 {pr pk : Int} {ss : List PyData} (h : PlanOk pr pk ss) : ∀ x ∈ playsL ss, neT0 x = true := fun x hx => by
  obtain ⟨s, hs, hx⟩ := List.mem_flatMap.mp (List.mem_mergeSort.mp hx)
  have h1 := h.fit.ne s hs
  obtain ⟨t, n, e, ps, rfl, _⟩ := h.sit s hs
  rw [trips_sit] at hx
  obtain ⟨p, _, rfl⟩ := List.mem_map.mp hx
  exact h1
def sideN : PyData → Nat × Nat
  | .tuple [_, .int n, .int e] => (n.toNat, e.toNat)
  | _ => (0, 0)
def ownP (pl : List PyData) (p : Nat) : Prs := (pl.filter (packIs (p : Nat))).map sideN
theorem own_side {pr pk : Int} {pl : List PyData} (h : ∀ x ∈ pl, Trip pr pk x) (p : Nat) : ((pl.filter (packIs (p : Nat))).map sideD) = (ownP pl p).map pairD := by
  unfold ownP
  rw [List.map_map]
  refine List.map_congr_left fun t ht => ?_
  obtain ⟨q, n, e, rfl, b1, b2, b3, b4, b5, b6⟩ := h t (List.mem_filter.mp ht).1
  show PyData.tuple [.int n, .int e] = .tuple [.int (n.toNat : Nat), .int (e.toNat : Nat)]
  rw [Int.toNat_of_nonneg b3, Int.toNat_of_nonneg b5]
theorem own_in {pr pk : Int} {pl : List PyData} (h : ∀ x ∈ pl, Trip pr pk x) (hl : pl.length ≤ 480) (p : Nat) : PrsIn pr.toNat (ownP pl p) := by
  refine ⟨?_, fun q hq => ?_⟩
  · unfold ownP
    rw [List.length_map]
    exact Nat.le_trans (List.length_filter_le _ _) hl
  · obtain ⟨t, ht, rfl⟩ := List.mem_map.mp hq
    obtain ⟨q, n, e, rfl, b1, b2, b3, b4, b5, b6⟩ := h t (List.mem_filter.mp ht).1
    show n.toNat < pr.toNat ∧ e.toNat < pr.toNat
    omega
theorem own_one {pr pk : Int} {ss : List PyData} (h : PlanOk pr pk ss) (p : Nat) : OneSeat (ownP (playsL ss) p) := by
  have hall := plays_all h
  refine ⟨fun a => ?_, fun q hq => ?_⟩
  · have h1 := h.fit.one (a : Nat) (p : Nat)
    unfold seatN at h1
    have h2 : (playsL ss).countP (seatAt (a : Nat) (p : Nat)) ≤ 1 := by
      unfold playsL
      rw [(List.mergeSort_perm (ss.flatMap tripsOf) dle).countP_eq]
      exact h1
    unfold ownP
    rw [List.filter_map, List.length_map, List.filter_filter, ← List.countP_eq_length_filter]
    refine Nat.le_trans (Nat.le_of_eq (List.countP_congr fun t ht => ?_)) h2
    obtain ⟨q, n, e, rfl, b1, b2, b3, b4, b5, b6⟩ := hall t ht
    have e1 : (has a (sideN (tripD q n e))) = ((a : Int) == n || (a : Int) == e) := by
      have e2 : (a == n.toNat) = ((a : Int) == n) := by
        rw [Bool.eq_iff_iff, beq_iff_eq, beq_iff_eq]
        omega
      have e3 : (a == e.toNat) = ((a : Int) == e) := by
        rw [Bool.eq_iff_iff, beq_iff_eq, beq_iff_eq]
        omega
      show (a == n.toNat || a == e.toNat) = _
      rw [e2, e3]
    show ((has a (sideN (tripD q n e)) && packIs (p : Nat) (tripD q n e)) = true) ↔ ((q == (p : Nat) && ((a : Int) == n || (a : Int) == e)) = true)
    rw [e1]
    show ((_ && (q == (p : Nat))) = true) ↔ _
    rw [Bool.and_comm]
  · obtain ⟨t, ht, rfl⟩ := List.mem_map.mp hq
    have ht := (List.mem_filter.mp ht).1
    have h1 := plays_ne0 h t ht
    obtain ⟨q, n, e, rfl, b1, b2, b3, b4, b5, b6⟩ := hall t ht
    show n.toNat ≠ e.toNat
    have h1 : (!(n == e)) = true := h1
    have : n ≠ e := by simpa using h1
    omega
/-- how often two pairs are held against one another, over k packs -/
def tabK (pl : List PyData) (k : Nat) : TF := fun a b => ((List.range k).map fun p => cell (ownP pl p) a b).sum
theorem tab_succ (pl : List PyData) (k : Nat) (a b : Nat) : tabK pl (k + 1) a b = tabK pl k a b + cell (ownP pl k) a b := by
  unfold tabK
  rw [List.range_succ, List.map_append, List.sum_append]
  simp
def tabD (P : Nat) (f : TF) : PyData := .tuple ((List.range P).map fun i => .tuple (rowD P (f i)))
def bTable : SL := (.cons (.set 1 (.lc (.bin .mul (.lst (.cons (.sim (.int 0)) .nil)) (.sim (.idx (.var 0) (.int 0)))) (.name 4) (.rng .non (.sim (.idx (.var 0) (.int 0)))) .non [4]))
  (.cons (.for_ (.name 2) (.rng .non (.sim (.idx (.var 0) (.int 1))))
  (.cons (.set 3 (.call "rows_of" (.cons (.sim (.idx (.var 0) (.int 0))) (.cons (.call "plays_of" (.cons (.sim (.var 0)) (.cons (.sim (.var 2)) .nil))) .nil))))
  (.cons (.set 1 (.lc (.lc (.bin .add (.sim (.var 8)) (.sim (.var 9))) (.tup (.cons (.name 8) (.cons (.name 9) .nil))) (.zip (.sim (.var 6)) (.sim (.var 7))) .non [8, 9]) (.tup (.cons (.name 6) (.cons (.name 7) .nil))) (.zip (.sim (.var 1)) (.sim (.var 3))) .non [6, 7]))
  .nil))
  [2, 3])
  (.cons (.ret (.blt1 .tuple (.lc (.blt1 .tuple (.sim (.var 5))) (.name 5) (.seq (.sim (.var 1))) .non [5])))
  .nil)))
def feRowsOf : FE := ⟨["pairs", "own"], [], none, spRowsOf⟩
def spTable : FS := fun xs Q => ∃ (pr pk : Int) (ss : List PyData), xs = [.d (planD pr pk ss)] ∧ PlanOk pr pk ss ∧ ∀ rest, Q (.d (tabD pr.toNat (tabK (playsL ss) pk.toNat))) rest
theorem zip_mat {P : Nat} {f g : TF} {i : Nat} {y : PyData} (h : (List.zipWith (fun p q => PyData.tuple [p, q]) (matD P f) (matD P g))[i]? = some y) : i < P ∧ y = .tuple [.list (rowD P (f i)), .list (rowD P (g i))] := by
  have hi := (List.getElem?_eq_some_iff.mp h).1
  rw [List.length_zipWith] at hi
  unfold matD at h hi
  rw [List.length_map, List.length_map, List.length_range, Nat.min_self] at hi
  rw [List.getElem?_zipWith, List.getElem?_map, List.getElem?_map, List.getElem?_range hi] at h
  cases h
  exact ⟨hi, rfl⟩
theorem zip_row {P : Nat} {f g : Nat → Int} {i : Nat} {y : PyData} (h : (List.zipWith (fun p q => PyData.tuple [p, q]) (rowD P f) (rowD P g))[i]? = some y) : i < P ∧ y = .tuple [.int (f i), .int (g i)] := by
  have hi := (List.getElem?_eq_some_iff.mp h).1
  rw [List.length_zipWith] at hi
  unfold rowD at h hi
  rw [List.length_map, List.length_map, List.length_range, Nat.min_self] at hi
  rw [List.getElem?_zipWith, List.getElem?_map, List.getElem?_map, List.getElem?_range hi] at h
  cases h
  exact ⟨hi, rfl⟩
theorem zip_mat_len (P : Nat) (f g : TF) : (List.zipWith (fun p q => PyData.tuple [p, q]) (matD P f) (matD P g)).length = P := by
  unfold matD
  rw [List.length_zipWith, List.length_map, List.length_map, List.length_range, Nat.min_self]
theorem zip_row_len (P : Nat) (f g : Nat → Int) : (List.zipWith (fun p q => PyData.tuple [p, q]) (rowD P f) (rowD P g)).length = P := by
  unfold rowD
  rw [List.length_zipWith, List.length_map, List.length_map, List.length_range, Nat.min_self]
theorem ok_table {Γ : Gam} {Φ : Phi} (hR : Φ "rows_of" = some feRowsOf) (hO : Φ "plays_of" = some fePlaysOf) : ∀ xs Q, spTable xs Q → fsOf Γ Φ 1 10 bTable xs Q := by
  rintro xs Q ⟨pr, pk, ss, rfl, hP, hq⟩
  refine ⟨rfl, ?_⟩
  have hp1 := hP.p1
  have hp2 := hP.p2
  have hk1 := hP.k1
  have hk2 := hP.k2
  have hall := plays_all hP
  have hlen := plays_len hP
  rw [bTable, r_cons]
  simp_arith [planD, at0]
  refine ⟨by decide, by decide, by omega, by omega, fun j acc ρ => acc = (List.range j).map (fun _ => rowT pr.toNat fun _ => 0) ∧ ρ = [some (.d (planD pr pk ss)), none, none, none, none, none, none, none, none, none], ⟨rfl, rfl⟩, ?_, ?_⟩
  · rintro j y acc ρ2 hy ⟨rfl, rfl⟩
    have hj := (List.getElem?_eq_some_iff.mp hy).1
    simp only [List.length_map, List.length_range] at hj
    simp_arith only [planD, at0, List.length_map, List.length_range]
    refine ⟨fun _ => ⟨[.int 0], fo1, by omega, by omega, by rw [sizeLine_eq]; exact Nat.le_trans (Nat.mul_le_mul_left 1 (show pr.toNat ≤ 10 by omega)) (by decide), small64 (by omega), ?_⟩, fun z => (nomatch z)⟩
    rw [zero_row, List.range_succ, List.map_append]
    rfl
  rintro acc ρ2 ⟨rfl, rfl⟩
  simp_arith [List.length_map, List.length_range]
  have hz : ((List.range pr.toNat).map fun _ => rowT pr.toNat fun _ => (0 : Int)) = matL pr.toNat (tabK (playsL ss) 0) := rfl
  rw [hz, r_cons]
  simp_arith [planD, at1]
  refine ⟨by decide, by decide, by omega, by omega, fun k ρ => ρ = [some (.d (planD pr pk ss)), some (.own (matL pr.toNat (tabK (playsL ss) k))), none, none, none, none, none, none, none, none], rfl, ?_, ?_⟩
  · rintro k x ρ2 hx rfl
    have hk := (List.getElem?_eq_some_iff.mp hx).1
    simp only [List.length_map, List.length_range] at hk
    simp only [List.getElem?_map, List.getElem?_range hk, Option.map_some, Option.some.injEq] at hx
    subst hx
    simp_arith
    rw [r_cons]
    simp_arith [planD, at0, q_call hR rfl, q_call hO rfl, args2, args22, feRowsOf, fePlaysOf]
    refine ⟨pr, pk, ss, _, rfl, hP, fun rest => ?_⟩
    rw [own_side hall]
    simp_arith [args2]
    refine ⟨pr.toNat, _, by rw [Int.toNat_of_nonneg (by omega)], by omega, own_in hall hlen k, fun rest => ?_⟩
    simp_arith
    rw [r_cons]
    simp_arith [mat_frz]
    have hsum : ∀ a b, tabK (playsL ss) (k + 1) a b = tabK (playsL ss) k a b + cell (ownP (playsL ss) k) a b := fun a b => tab_succ _ _ a b
    generalize tabK (playsL ss) k = F at hsum ⊢
    generalize cell (ownP (playsL ss) k) = G at hsum ⊢
    refine ⟨fun i acc ρ => acc = (List.range i).map (fun i => rowT pr.toNat (tabK (playsL ss) (k + 1) i)) ∧ ρ = [some (.d (planD pr pk ss)), some (.d (.list (matD pr.toNat F))), some (.d (.int (k : Nat))), some (.d (.list (matD pr.toNat G))), none, none, none, none, none, none], ⟨rfl, rfl⟩, ?_, ?_⟩
    · rintro i y acc ρ2 hy ⟨rfl, rfl⟩
      obtain ⟨hi, rfl⟩ := zip_mat hy
      simp_arith only [List.length_map, List.length_range]
      refine ⟨fun _ => ?_, fun z => (nomatch z)⟩
      refine ⟨fun j acc ρ => acc = (List.range j).map (fun j => Tv.d (.int (tabK (playsL ss) (k + 1) i j))) ∧ ρ = [some (.d (planD pr pk ss)), some (.d (.list (matD pr.toNat F))), some (.d (.int (k : Nat))), some (.d (.list (matD pr.toNat G))), none, none, some (.d (.list (rowD pr.toNat (F i)))), some (.d (.list (rowD pr.toNat (G i)))), none, none], ⟨rfl, rfl⟩, ?_, ?_⟩
      · rintro j y acc ρ2 hy ⟨rfl, rfl⟩
        obtain ⟨hj, rfl⟩ := zip_row hy
        simp_arith only [List.length_map, List.length_range]
        refine ⟨fun _ => ⟨small64 (by omega), ?_⟩, fun z => (nomatch z)⟩
        rw [List.range_succ, List.map_append, List.map_cons, List.map_nil, hsum]
      · rintro acc ρ2 ⟨rfl, rfl⟩
        rw [zip_row_len]
        simp_arith only
        refine ⟨small64 (by omega), ?_⟩
        rw [List.range_succ, List.map_append]
        rfl
    · rintro acc ρ2 ⟨rfl, rfl⟩
      rw [zip_mat_len]
      simp_arith only
      exact ⟨rfl, rfl⟩
  · rintro ρ2 rfl
    simp_arith [List.length_map, List.length_range, mat_frz]
    rw [r_cons]
    simp_arith [mat_frz]
    refine ⟨fun i acc ρ => acc = ((List.range i).map fun i => PyData.tuple (rowD pr.toNat (tabK (playsL ss) pk.toNat i))).map Tv.d ∧ ρ = [some (.d (planD pr pk ss)), some (.d (.list (matD pr.toNat (tabK (playsL ss) pk.toNat)))), none, none, none, none, none, none, none, none], ⟨rfl, rfl⟩, ?_, ?_⟩
    · rintro i y acc ρ2 hy ⟨rfl, rfl⟩
      have hi := (List.getElem?_eq_some_iff.mp hy).1
      unfold matD at hy hi
      rw [List.length_map, List.length_range] at hi
      rw [List.getElem?_map, List.getElem?_range hi] at hy
      cases hy
      simp_arith only [List.length_map, List.length_range, b_tupleL]
      refine ⟨fun _ => ⟨small64 (by omega), ?_⟩, fun z => (nomatch z)⟩
      rw [List.range_succ, List.map_append, List.map_append]
      rfl
    · rintro acc ρ2 ⟨rfl, rfl⟩
      have e : (matD pr.toNat (tabK (playsL ss) pk.toNat)).length = pr.toNat := by
        unfold matD
        rw [List.length_map, List.length_range]
      rw [e]
      simp_arith only [b_tuple]
      exact hq _
def feTable : FE := ⟨["plan"], [["plan"]], none, spTable⟩
end Tr
set_option Elab.async false
set_option linter.all false
set_option maxRecDepth 100000
set_option maxHeartbeats 4000000
set_option exponentiation.threshold 3000
namespace Tr
open PySem PySem.Spec PyProof.Rows L2
section
variable {Γ : Gam} {Φ : Phi} {D : DE} {P : Nat} {own : Prs} {x0 x1 : Option Tv}
end
end Tr
set_option Elab.async false
set_option linter.all false
set_option maxRecDepth 100000
set_option maxHeartbeats 4000000
set_option exponentiation.threshold 3000
namespace Tr
open PySem PySem.Spec PyProof.Rows L2
end Tr
set_option Elab.async false
set_option linter.all false
set_option maxRecDepth 100000
set_option maxHeartbeats 4000000
set_option exponentiation.threshold 3000
namespace Tr
open PySem PySem.Spec PyProof.Rows L2
section
variable {Γ : Gam} {Φ : Phi} {ns : List Int} {a b c : Int} {k : Nat} {pr pk : Int} {ss : List PyData} {D : DE} {S : Str}
end
end Tr
set_option Elab.async false
set_option linter.all false
set_option maxRecDepth 100000
set_option maxHeartbeats 4000000
namespace Tr
open PySem PySem.Spec PyProof.Rows L2
theorem sum_perm {α : Type} {f : α → Int} {l m : List α} (h : l.Perm m) : (l.map f).sum = (m.map f).sum := by
  induction h with
  | nil => rfl
  | cons x _ ih => rw [List.map_cons, List.map_cons, List.sum_cons, List.sum_cons, ih]
  | swap x y l =>
    rw [List.map_cons, List.map_cons, List.map_cons, List.map_cons, List.sum_cons, List.sum_cons, List.sum_cons, List.sum_cons]
    omega
  | trans _ _ h1 h2 => rw [h1, h2]
theorem sum_mul {α : Type} (c : Int) (f : α → Int) : ∀ l : List α, (l.map fun x => c * f x).sum = c * (l.map f).sum
  | [] => (Int.mul_zero c).symm
  | x :: l => by
    rw [List.map_cons, List.map_cons, List.sum_cons, List.sum_cons, sum_mul c f l, Int.mul_add]
def sd (p : Nat × Nat) (i : Nat) : Int := ind (i = p.1) + ind (i = p.2)
/-- play by play -/
def packN : PyData → Nat
  | .tuple [.int q, _, _] => q.toNat
  | _ => 0
end Tr
set_option Elab.async false
set_option linter.all false
set_option maxRecDepth 100000
set_option maxHeartbeats 4000000
set_option exponentiation.threshold 3000
namespace Tr
open PySem PySem.Spec PyProof.Rows L2
end Tr
set_option Elab.async false
set_option linter.all false
set_option maxRecDepth 100000
set_option maxHeartbeats 4000000
set_option exponentiation.threshold 3000
namespace Tr
open PySem PySem.Spec PyProof.Rows L2
def bGainOf : SL := (.cons (.ite (.cmp .eq (.sim (.var 2)) (.sim (.str "points")))
  (.cons (.ret (.bin .sub (.sim (.var 0)) (.sim (.var 1))))
  .nil)
  .nil)
  (.cons (.ret (.bin .sub (.bltv .int (.cmp .gt (.sim (.var 0)) (.sim (.var 1)))) (.bltv .int (.cmp .lt (.sim (.var 0)) (.sim (.var 1))))))
  .nil))
def gainV (w : Str) (x y : Int) : Int := if w == "points" then x - y else (if decide (y < x) then 1 else 0) - (if decide (x < y) then 1 else 0)
def spGainOf : FS := fun xs Q => ∃ (x y : Int) (w : Str), xs = [.d (.int x), .d (.int y), .d (.str w)] ∧ ∀ rest, Q (.d (.int (gainV w x y))) rest
theorem c_eqStr {x y : Str} {R : Bool → Prop} (h : R (x == y)) : cmpO .eq (.d (.str x)) (.d (.str y)) R := ⟨_, _, rfl, rfl, rfl, rfl, h⟩
theorem ok_gainOf {Γ : Gam} {Φ : Phi} : ∀ xs Q, spGainOf xs Q → fsOf Γ Φ 3 3 bGainOf xs Q := by
  rintro xs Q ⟨x, y, w, rfl, hq⟩
  refine ⟨rfl, ?_⟩
  rw [bGainOf, r_cons]
  simp_arith
  refine c_eqStr (if_l (fun h => ?_) fun h => ?_)
  · have e : gainV w x y = x - y := by unfold gainV; rw [if_pos h]
    rw [e] at hq
    simp_arith only
    exact hq _
  · have e : gainV w x y = (if decide (y < x) then 1 else 0) - (if decide (x < y) then 1 else 0) := by unfold gainV; rw [if_neg (by simp [h])]
    rw [e] at hq
    simp_arith only
    exact ⟨_, _, rfl, rfl, _, _, rfl, rfl, hq _⟩
def optD : Option Int → PyData
  | none => .none
  | some i => .int i
end Tr
set_option Elab.async false
set_option linter.all false
set_option maxRecDepth 100000
set_option maxHeartbeats 4000000
namespace Tr
open PySem PySem.Spec PyProof.Rows L2
def addAt (xs : List Int) (i : Nat) (v : Int) : List Int := xs.set i (xs.getD i 0 + v)
theorem addAt_len (xs : List Int) (i : Nat) (v : Int) : (addAt xs i v).length = xs.length := List.length_set
theorem addAt_get {xs : List Int} {i : Nat} (h : i < xs.length) (j : Nat) (v : Int) : (addAt xs j v).getD i 0 = xs.getD i 0 + if j = i then v else 0 := by
  unfold addAt
  rw [List.getD_eq_getElem?_getD, List.getD_eq_getElem?_getD, List.getElem?_set]
  split
  · rename_i e
    subst e
    rw [if_pos h]
    simp [List.getD_eq_getElem?_getD]
  · simp
def addAll (xs : List Int) (ps : List (Nat × Int)) : List Int := ps.foldl (fun a p => addAt a p.1 p.2) xs
theorem addAll_len : ∀ (ps : List (Nat × Int)) (xs : List Int), (addAll xs ps).length = xs.length
  | [], _ => rfl
  | p :: ps, xs => by
    show (addAll (addAt xs p.1 p.2) ps).length = _
    rw [addAll_len ps, addAt_len]
theorem addAll_append (xs : List Int) (ps qs : List (Nat × Int)) : addAll xs (ps ++ qs) = addAll (addAll xs ps) qs := List.foldl_append
def sumAt (i : Nat) (ps : List (Nat × Int)) : Int := (ps.map fun p => if p.1 = i then p.2 else 0).sum
theorem sumAt_append (i : Nat) (ps qs : List (Nat × Int)) : sumAt i (ps ++ qs) = sumAt i ps + sumAt i qs := by
  unfold sumAt
  rw [List.map_append, List.sum_append]
theorem addAll_get {i : Nat} : ∀ (ps : List (Nat × Int)) {xs : List Int}, i < xs.length → (addAll xs ps).getD i 0 = xs.getD i 0 + sumAt i ps
  | [], xs, _ => (Int.add_zero _).symm
  | p :: ps, xs, h => by
    show (addAll (addAt xs p.1 p.2) ps).getD i 0 = xs.getD i 0 + ((if p.1 = i then p.2 else 0) + sumAt i ps)
    rw [addAll_get ps (by rw [addAt_len]; exact h), addAt_get h]
    omega
end Tr
set_option Elab.async false
set_option linter.all false
set_option maxRecDepth 100000
set_option maxHeartbeats 4000000
set_option exponentiation.threshold 3000
namespace Tr
open PySem PySem.Spec PyProof.Rows L2
def bTotals : SL := (.cons (.set 3 (.lc (.tup (.cons (.sim (.var 10)) (.cons (.sim (.var 5)) .nil))) (.tup (.cons (.name 10) (.cons (.name 5) .nil))) (.zip (.call "plays" (.cons (.sim (.var 0)) .nil)) (.sim (.var 1))) (.som (.notN (.sim (.var 5)))) [10, 5]))
  (.cons (.set 4 (.bin .mul (.lst (.cons (.sim (.int 0)) .nil)) (.sim (.idx (.var 0) (.int 0)))))
  (.cons (.for_ (.tup (.cons (.tup (.cons (.name 7) (.cons (.name 8) (.cons (.name 9) .nil)))) (.cons (.name 5) .nil))) (.seq (.sim (.var 3)))
  (.cons (.set 6 (.bltv .sum (.lc (.call "gain_of" (.cons (.sim (.var 5)) (.cons (.sim (.var 11)) (.cons (.sim (.var 2)) .nil)))) (.tup (.cons (.name 10) (.cons (.name 11) .nil))) (.seq (.sim (.var 3))) (.som (.cmp .eq (.sim (.idx (.var 10) (.int 0))) (.sim (.var 7)))) [10, 11])))
  (.cons (.ix1 4 (.var 8) (.bin .add (.sim (.idx (.var 4) (.var 8))) (.sim (.var 6))))
  (.cons (.ix1 4 (.var 9) (.bin .sub (.sim (.idx (.var 4) (.var 9))) (.sim (.var 6))))
  .nil)))
  [7, 8, 9, 6])
  (.cons (.ret (.blt1 .tuple (.sim (.var 4))))
  .nil))))
def feGainOf : FE := ⟨["one", "other", "way"], [], none, spGainOf⟩
structure Ent where
  p : Nat
  n : Nat
  e : Nat
  r : Int
def Ent.d (x : Ent) : PyData := .tuple [tripD (x.p : Nat) (x.n : Nat) (x.e : Nat), .int x.r]
def entZ : PyData → Option Ent
  | .tuple [.tuple [.int p, .int n, .int e], .int r] => some ⟨p.toNat, n.toNat, e.toNat, r⟩
  | _ => none
def zipL (pl : List PyData) (rs : List (Option Int)) : List PyData := List.zipWith (fun p q => .tuple [p, q]) pl (rs.map optD)
def gainE (w : Str) (es : List Ent) (x : Ent) : Int := ((es.filter fun y => y.p == x.p).map fun y => gainV w x.r y.r).sum
def addsE (w : Str) (es : List Ent) (x : Ent) : List (Nat × Int) := [(x.n, gainE w es x), (x.e, - gainE w es x)]
def totalsE (w : Str) (pr : Int) (es : List Ent) : List Int := addAll (List.replicate pr.toNat 0) (es.flatMap (addsE w es))
def spTotals : FS := fun xs Q => ∃ (pr pk : Int) (ss : List PyData) (rs : List (Option Int)) (w : Str), xs = [.d (planD pr pk ss), .d (.tuple (rs.map optD)), .d (.str w)] ∧ PlanOk pr pk ss ∧ rs.length = (playsL ss).length ∧ ∀ rest, Q (.d (.tuple ((totalsE w pr ((zipL (playsL ss) rs).filterMap entZ)).map .int))) rest
theorem zip_at {pl : List PyData} {rs : List (Option Int)} {j : Nat} {y : PyData} (h : (zipL pl rs)[j]? = some y) : ∃ t o, pl[j]? = some t ∧ rs[j]? = some o ∧ y = .tuple [t, optD o] := by
  unfold zipL at h
  rw [List.getElem?_zipWith, List.getElem?_map] at h
  cases h1 : pl[j]? with
  | none => rw [h1] at h; cases h
  | some t =>
    cases h2 : rs[j]? with
    | none => rw [h1, h2] at h; cases h
    | some o =>
      rw [h1, h2] at h
      cases h
      exact ⟨t, o, rfl, rfl, rfl⟩
theorem fmap_st {α β : Type} (f : α → Option β) {l : List α} {k : Nat} {x : α} {y : β} (h : l[k]? = some x) (e : f x = some y) : (l.take (k + 1)).filterMap f = (l.take k).filterMap f ++ [y] := by
  rw [take_snoc h, List.filterMap_append]
  simp [e]
theorem fmap_sf {α β : Type} (f : α → Option β) {l : List α} {k : Nat} {x : α} (h : l[k]? = some x) (e : f x = none) : (l.take (k + 1)).filterMap f = (l.take k).filterMap f := by
  rw [take_snoc h, List.filterMap_append]
  simp [e]
theorem ent_d {p n e r : Int} (hp : 0 ≤ p) (hn : 0 ≤ n) (he : 0 ≤ e) : (Ent.mk p.toNat n.toNat e.toNat r).d = .tuple [tripD p n e, .int r] := by
  unfold Ent.d
  rw [Int.toNat_of_nonneg hp, Int.toNat_of_nonneg hn, Int.toNat_of_nonneg he]
theorem zip_len (pl : List PyData) (rs : List (Option Int)) : (zipL pl rs).length ≤ pl.length := by
  unfold zipL
  rw [List.length_zipWith]
  exact Nat.min_le_left ..
theorem ent_in {pr pk : Int} {pl : List PyData} {rs : List (Option Int)} (h : ∀ x ∈ pl, Trip pr pk x) : ∀ x ∈ (zipL pl rs).filterMap entZ, x.n < pr.toNat ∧ x.e < pr.toNat := fun x hx => by
  obtain ⟨y, hy, e⟩ := List.mem_filterMap.mp hx
  obtain ⟨j, hj⟩ := List.getElem?_of_mem hy
  obtain ⟨t, o, ht, ho, rfl⟩ := zip_at hj
  obtain ⟨p, n, e', rfl, b1, b2, b3, b4, b5, b6⟩ := h t (List.mem_of_getElem? ht)
  cases o with
  | none => cases e
  | some r =>
    cases e
    exact ⟨by show n.toNat < pr.toNat; omega, by show e'.toNat < pr.toNat; omega⟩
theorem at_own {A : List Int} {n : Nat} (h : n < A.length) : atI ((A.map PyData.int).map Tv.d) (n : Nat) = some (.d (.int (A.getD n 0))) := atI_nat (j := n) (by
  rw [List.getElem?_map, List.getElem?_map, List.getElem?_eq_getElem h, List.getD_eq_getElem?_getD, List.getElem?_eq_getElem h]
  rfl)
theorem set_own (A : List Int) (n : Nat) (v : Int) : ((A.map PyData.int).map Tv.d).set n (.d (.int v)) = ((A.set n v).map PyData.int).map Tv.d := by
  rw [List.map_set, List.map_set]
theorem ixN_own {A : List Int} {n : Nat} (h : n < A.length) : ixN ((A.map PyData.int).map Tv.d).length (n : Nat) = some n := by
  rw [List.length_map, List.length_map]
  unfold ixN
  rw [if_pos (by omega), if_pos (by omega)]
  rfl
theorem zeros_flat : ∀ k : Nat, (List.replicate k [PyData.int 0]).flatten = (List.replicate k (0 : Int)).map .int
  | 0 => rfl
  | k + 1 => by
    rw [List.replicate_succ, List.replicate_succ, List.flatten_cons, List.map_cons, ← zeros_flat k]
    rfl
theorem ok_totals {Γ : Gam} {Φ : Phi} (hP : Φ "plays" = some fePlays) (hG : Φ "gain_of" = some feGainOf) : ∀ xs Q, spTotals xs Q → fsOf Γ Φ 3 12 bTotals xs Q := by
  rintro xs Q ⟨pr, pk, ss, rs, w, rfl, hplan, hrl, hq⟩
  refine ⟨rfl, ?_⟩
  rw [bTotals, r_cons]
  simp_arith [q_call hP rfl, args1, fePlays]
  refine ⟨pr, pk, ss, rfl, hplan, fun rest => ?_⟩
  simp_arith
  have hall := plays_all hplan
  have hlen := plays_len hplan
  have hzl := zip_len (playsL ss) rs
  have hzd : List.zipWith (fun p q => PyData.tuple [p, q]) (playsL ss) (List.map optD rs) = zipL (playsL ss) rs := rfl
  rw [hzd]
  refine ⟨fun j acc ρ => acc = ((((zipL (playsL ss) rs).take j).filterMap entZ).map Ent.d).map Tv.d ∧ ρ = [some (.d (planD pr pk ss)), some (.d (.tuple (rs.map optD))), some (.d (.str w)), none, none, none, none, none, none, none, none, none], ⟨rfl, rfl⟩, ?_, ?_⟩
  · rintro j y acc ρ2 hy ⟨rfl, rfl⟩
    have hj := (List.getElem?_eq_some_iff.mp hy).1
    obtain ⟨t, o, ht, ho, rfl⟩ := zip_at hy
    obtain ⟨p, n, e, rfl, b1, b2, b3, b4, b5, b6⟩ := hall t (List.mem_of_getElem? ht)
    have hfl := List.length_filterMap_le entZ ((zipL (playsL ss) rs).take j)
    rw [List.length_take] at hfl
    cases o with
    | none =>
      have e1 := fmap_sf entZ hy rfl
      simp_arith only [optD, tripD, isNonD, fz2, List.length_map]
      exact ⟨fun z => (nomatch z), fun _ => by rw [e1]⟩
    | some r =>
      have e1 := fmap_st entZ hy (y := ⟨p.toNat, n.toNat, e.toNat, r⟩) rfl
      simp_arith only [optD, tripD, isNonD, fz2, List.length_map]
      refine ⟨fun _ => ⟨small64 (by omega), ?_⟩, fun z => (nomatch z)⟩
      rw [e1, List.map_append, List.map_append, List.map_cons, List.map_nil, ent_d b1 b3 b5]
      rfl
  rintro acc ρ2 ⟨rfl, rfl⟩
  simp_arith [List.take_length, planD]
  rw [r_cons]
  have hp1 := hplan.p1
  have hp2 := hplan.p2
  simp_arith
  refine ⟨[.int 0], fo1, by omega, by omega, by rw [sizeLine_eq]; exact Nat.le_trans (Nat.mul_le_mul_left 1 (show pr.toNat ≤ 10 by omega)) (by decide), ?_⟩
  rw [zeros_flat]
  show wSL Γ Φ _ _ _
  rw [r_cons]
  simp_arith [f_own]
  unfold totalsE at hq
  have hent := ent_in (rs := rs) hall
  have hel := Nat.le_trans (List.length_filterMap_le entZ (zipL (playsL ss) rs)) hzl
  generalize hes : (zipL (playsL ss) rs).filterMap entZ = es at hq hent hel ⊢
  generalize hxs : List.replicate pr.toNat (0 : Int) = zs at hq ⊢
  refine ⟨fun k ρ => ∃ o : Option Tv, ρ = [some (.d (planD pr pk ss)), some (.d (.tuple (rs.map optD))), some (.d (.str w)), some (.d (.list (es.map Ent.d))), some (.own (((addAll zs ((es.take k).flatMap (addsE w es))).map PyData.int).map .d)), o, none, none, none, none, none, none], ⟨none, rfl⟩, ?_, ?_⟩
  · rintro k y ρ2 hy ⟨o, rfl⟩
    rw [List.getElem?_map] at hy
    obtain ⟨x, hx, rfl⟩ := Option.map_eq_some_iff.mp hy
    obtain ⟨hn, he⟩ := hent x (List.mem_of_getElem? hx)
    simp_arith [Ent.d, tripD]
    rw [r_cons]
    simp_arith
    refine ⟨fun g acc ρ => acc = ((((es.take g).filter fun z => z.p == x.p).map fun z => gainV w x.r z.r).map PyData.int).map Tv.d ∧ ρ = [some (.d (planD pr pk ss)), some (.d (.tuple (rs.map optD))), some (.d (.str w)), some (.d (.list (es.map Ent.d))), some (.own (((addAll zs ((es.take k).flatMap (addsE w es))).map PyData.int).map .d)), some (.d (.int x.r)), none, some (.d (.int (x.p : Nat))), some (.d (.int (x.n : Nat))), some (.d (.int (x.e : Nat))), none, none], ⟨rfl, rfl⟩, ?_, ?_⟩
    · rintro g y acc ρ2 hy ⟨rfl, rfl⟩
      rw [List.getElem?_map] at hy
      obtain ⟨z, hz, rfl⟩ := Option.map_eq_some_iff.mp hy
      have hg := (List.getElem?_eq_some_iff.mp hz).1
      have hfl := List.length_filter_le (fun z => z.p == x.p) (es.take g)
      rw [List.length_take] at hfl
      simp_arith only [Ent.d, tripD, q_call hG rfl, args33, feGainOf, List.length_map]
      refine ⟨fun h2 => ⟨_, _, _, rfl, fun rest => ⟨small64 (by omega), ?_⟩⟩, fun h2 => ?_⟩
      · have h3 : (fun z : Ent => z.p == x.p) z = true := by
          have h4 := eq_of_beq h2
          exact beq_iff_eq.mpr (by omega)
        rw [filter_st _ hz h3, List.map_append, List.map_append, List.map_append]
        rfl
      · have h3 : (fun z : Ent => z.p == x.p) z = false := by
          have h4 := ne_of_beq_false h2
          exact beq_eq_false_iff_ne.mpr (by omega)
        rw [filter_sf _ hz h3]
    rintro acc ρ2 ⟨rfl, rfl⟩
    simp_arith
    rw [List.length_map, List.take_length]
    refine ⟨_, _, _, _, rfl, f_own, rfl, intsOf_map _, ?_⟩
    show wSL Γ Φ _ _ _
    rw [r_cons]
    simp_arith
    have hzs : zs.length = pr.toNat := by rw [← hxs, List.length_replicate]
    have hAl := addAll_len ((es.take k).flatMap (addsE w es)) zs
    have hfin : addAll zs ((es.take (k + 1)).flatMap (addsE w es)) = addAt (addAt (addAll zs ((es.take k).flatMap (addsE w es))) x.n (gainE w es x)) x.e (- gainE w es x) := by
      rw [take_snoc hx, List.flatMap_append, List.flatMap_cons, List.flatMap_nil, List.append_nil, addAll_append]
      rfl
    have hgd : (((es.filter fun z => z.p == x.p).map fun z => gainV w x.r z.r)).sum = gainE w es x := rfl
    rw [hfin, hgd]
    generalize addAll zs ((es.take k).flatMap (addsE w es)) = A at hAl ⊢
    generalize gainE w es x = G
    rw [at_own (by omega)]
    simp_arith [ixN_own (A := A) (n := x.n) (by omega), set_own]
    rw [r_cons]
    simp_arith
    have e2 : A.set x.n (A.getD x.n 0 + G) = addAt A x.n G := rfl
    rw [e2, at_own (by rw [addAt_len]; omega)]
    simp_arith only [ixN_own (A := addAt A x.n G) (n := x.e) (by rw [addAt_len]; omega), set_own]
    have e3 : (addAt A x.n G).set x.e ((addAt A x.n G).getD x.e 0 - G) = addAt (addAt A x.n G) x.e (-G) := by
      unfold addAt
      rw [Int.sub_eq_add_neg]
    rw [e3]
  · rintro ρ2 ⟨o, rfl⟩
    simp_arith only [List.length_map, List.take_length, f_own, b_tuple, b_tupleL]
    exact hq _
end Tr
set_option Elab.async false
set_option linter.all false
set_option maxRecDepth 100000
set_option maxHeartbeats 4000000
set_option exponentiation.threshold 3000
namespace Tr
open PySem PySem.Spec PyProof.Rows L2
theorem sumAt_flat {α : Type} (i : Nat) (f : α → List (Nat × Int)) : ∀ l : List α, sumAt i (l.flatMap f) = (l.map fun x => sumAt i (f x)).sum
  | [] => rfl
  | x :: l => by
    rw [List.flatMap_cons, sumAt_append, sumAt_flat i f l]
    rfl
end Tr
set_option Elab.async false
set_option linter.all false
set_option maxRecDepth 100000
set_option maxHeartbeats 4000000
set_option exponentiation.threshold 3000
namespace Tr
open PySem PySem.Spec PyProof.Rows L2
def feTotals : FE := ⟨["plan", "results", "way"], [["way", "results", "plan"]], none, spTotals⟩
end Tr
set_option Elab.async false
set_option linter.all false
set_option maxRecDepth 100000
set_option maxHeartbeats 4000000
set_option exponentiation.threshold 3000
namespace Tr
open PySem PySem.Spec PyProof.Rows L2
theorem totals_len (w : Str) (pr : Int) (es : List Ent) : (totalsE w pr es).length = pr.toNat := by
  unfold totalsE
  rw [addAll_len, List.length_replicate]
end Tr
set_option Elab.async false
set_option linter.all false
set_option maxRecDepth 100000
set_option maxHeartbeats 4000000
namespace Tr
open PySem PySem.Spec PyProof.Rows L2
end Tr
set_option Elab.async false
set_option linter.all false
set_option maxRecDepth 100000
set_option maxHeartbeats 4000000
namespace Tr
open PySem PySem.Spec PyProof.Rows L2
theorem totals_at {w : Str} {pr : Int} {es : List Ent} {i : Nat} (hi : i < pr.toNat) : (totalsE w pr es).getD i 0 = (es.map fun x => sg (x.n, x.e) i * gainE w es x).sum := by
  unfold totalsE
  rw [addAll_get _ (by rw [List.length_replicate]; exact hi), sumAt_flat]
  have e0 : (List.replicate pr.toNat (0 : Int)).getD i 0 = 0 := by
    rw [List.getD_eq_getElem?_getD, List.getElem?_replicate]
    split <;> rfl
  rw [e0, Int.zero_add]
  congr 1
  refine List.map_congr_left fun x _ => ?_
  unfold addsE sumAt sg ind
  show (if x.n = i then _ else (0 : Int)) + ((if x.e = i then _ else 0) + 0) = _
  generalize gainE w es x = g
  by_cases h1 : x.n = i <;> by_cases h2 : x.e = i
  · rw [if_pos h1, if_pos h2, if_pos h1.symm, if_pos h2.symm]
    omega
  · rw [if_pos h1, if_neg h2, if_pos h1.symm, if_neg (fun z => h2 z.symm)]
    omega
  · rw [if_neg h1, if_pos h2, if_neg (fun z => h1 z.symm), if_pos h2.symm]
    omega
  · rw [if_neg h1, if_neg h2, if_neg (fun z => h1 z.symm), if_neg (fun z => h2 z.symm)]
    omega
end Tr
set_option Elab.async false
set_option linter.all false
set_option maxRecDepth 100000
set_option maxHeartbeats 4000000
set_option exponentiation.threshold 3000
namespace Tr
open PySem PySem.Spec PyProof.Rows L2
section
variable {pr pk : Int} {ss : List PyData}
end
end Tr
set_option Elab.async false
set_option linter.all false
set_option maxRecDepth 100000
set_option maxHeartbeats 1000000
set_option exponentiation.threshold 3000
namespace Tr
open PySem PySem.Spec PyProof.Rows L2
section
variable {pr pk : Int} {ss : List PyData}
theorem prs_of : ∀ {ns : List Int}, ns.Pairwise (· < ·) → prsB (ns.map .int) = true
  | [], _ => rfl
  | [_], _ => rfl
  | a :: b :: ns, h => by
    have ih := prs_of (List.pairwise_cons.mp h).2
    have hab := (List.pairwise_cons.mp h).1 b (by simp)
    have : prsB ((a :: b :: ns).map .int) = (decide (a < b) && prsB ((b :: ns).map .int)) := rfl
    rw [this, ih, decide_eq_true hab]
    rfl
theorem vsB_of {s : PyData} (h : VS pr pk s) : vsB pr pk s = true := by
  obtain ⟨t, n, e, ps, rfl, a1, a2, a3, a4, a5, a6, a7, a8, a9, a10, a11⟩ := h
  have h1 : packsB pk (.tuple (ps.map .int)) = true := by
    show (decide (1 ≤ (ps.map PyData.int).length) && decide ((ps.map PyData.int).length ≤ 4) && (ps.map PyData.int).all (isIB 0 (pk - 1)) && prsB (ps.map .int)) = true
    rw [List.length_map, decide_eq_true a8, decide_eq_true a9, prs_of a11, Bool.and_true]
    rw [Bool.true_and, Bool.true_and, List.all_map]
    refine List.all_eq_true.mpr fun p hp => ?_
    have := a10 p hp
    show (decide (0 ≤ p) && decide (p ≤ pk - 1)) = true
    rw [decide_eq_true this.1, decide_eq_true (by omega)]
    rfl
  have h2 : (n == e) = false := by simpa using a7
  show ((decide (0 ≤ t) && decide (t ≤ 14)) && ((decide (0 ≤ n) && decide (n ≤ pr - 1)) && (decide (0 ≤ e) && decide (e ≤ pr - 1)) && !(n == e)) && packsB pk (.tuple (ps.map .int))) = true
  rw [h1, h2, decide_eq_true a1, decide_eq_true a2, decide_eq_true a3, decide_eq_true a5, decide_eq_true (by omega : n ≤ pr - 1), decide_eq_true (by omega : e ≤ pr - 1)]
  rfl
theorem fit_pair {fs : List PyData} (h : Fit fs) : fs.Pairwise Apart := by
  rw [List.pairwise_iff_forall_sublist]
  intro a b hab i p
  have := (h.sub hab).one i p
  rw [seat_cons] at this
  omega
theorem seat_pos {i p t n e : Int} {ps : List Int} (hp : p ∈ ps) (hi : i = n ∨ i = e) : 0 < seatN i p [sitD t n e ps] := by
  rw [seat_one]
  refine List.countP_pos_iff.mpr ⟨p, hp, ?_⟩
  rcases hi with rfl | rfl <;> simp
theorem vs_all (hP : PlanOk pr pk ss) (hO : OneR ss) : ∀ s ∈ ss, VS pr pk s := fun s hs => by
  obtain ⟨t, n, e, ps, rfl, a1, a2, a3, a4, a5⟩ := hO.lim s hs
  obtain ⟨t', n', e', ps', h, b1, b2, b3, b4, b5, b6, b7, b8⟩ := hP.sit _ hs
  obtain ⟨rfl, rfl, rfl, rfl⟩ := sitD_inj h
  have hne := hP.fit.ne _ hs
  refine ⟨t, n, e, ps, rfl, a1, a2, b3, b4, b5, b6, ?_, a3, a4, b7, a5⟩
  intro z
  subst z
  simp [neS, sitD] at hne
theorem pairs_strict (hP : PlanOk pr pk ss) (hO : OneR ss) : ss.Pairwise fun a b => PySem.W.dataLt a b = true := by
  have h1 := hP.srt
  have h2 := fit_pair hP.fit
  have h3 : ss.Pairwise fun a b => VS pr pk a ∧ VS pr pk b := by
    rw [List.pairwise_iff_forall_sublist]
    intro a b hab
    exact ⟨vs_all hP hO a (hab.subset (by simp)), vs_all hP hO b (hab.subset (by simp))⟩
  refine ((h1.and h2).and h3).imp ?_
  rintro a b ⟨⟨hd, ha⟩, ⟨t, n, e, ps, rfl, a1, a2, a3, a4, a5, a6, a7, a8, _⟩, t', n', e', ps', rfl, _⟩
  cases hlt : PySem.W.dataLt (sitD t n e ps) (sitD t' n' e' ps') with
  | true => rfl
  | false =>
    have hd2 : dle (sitD t' n' e' ps') (sitD t n e ps) = true := by
      unfold dle
      rw [hlt]
      rfl
    have e1 := sit_antisymm hd hd2
    obtain ⟨p, hp⟩ := List.exists_mem_of_length_pos (show 0 < ps.length by omega)
    rw [← e1] at ha
    have := seat_pos (t := t) (e := e) hp (.inl rfl : n = n ∨ n = e)
    rcases ha n p with z | z <;> omega
theorem bw_ok {fs : List PyData} {s : PyData} (hs : VS pr pk s) (hv : ∀ o ∈ fs, VS pr pk o) (ha : ∀ o ∈ fs, Apart o s) (hr : ∀ o ∈ fs, Apart (rndS o) (rndS s)) : bwD s fs = .none := by
  obtain ⟨t, n, e, ps, rfl, _⟩ := hs
  have sh : ∀ o ∈ fs, shPz (sitD t n e ps) o = true → ∃ t' n' e' ps' i, o = sitD t' n' e' ps' ∧ (i = n ∨ i = e) ∧ (i = n' ∨ i = e') := fun o ho h => by
    obtain ⟨t', n', e', ps', rfl, _⟩ := hv o ho
    have h : ((n' == n || e' == n) || (n' == e || e' == e)) = true := h
    simp only [Bool.or_eq_true, beq_iff_eq] at h
    rcases h with (h | h) | (h | h)
    · exact ⟨t', n', e', ps', n, rfl, .inl rfl, .inl h.symm⟩
    · exact ⟨t', n', e', ps', n, rfl, .inl rfl, .inr h.symm⟩
    · exact ⟨t', n', e', ps', e, rfl, .inr rfl, .inl h.symm⟩
    · exact ⟨t', n', e', ps', e, rfl, .inr rfl, .inr h.symm⟩
  unfold bwD
  rw [if_neg, if_neg]
  · rw [List.any_eq_true]
    rintro ⟨o, ho, h⟩
    obtain ⟨ho2, hsp⟩ := List.mem_filter.mp ho
    obtain ⟨t', n', e', ps', i, rfl, h1, h2⟩ := sh o ho2 hsp
    have h : ((ps.map PyData.int).any fun p => (ps'.map PyData.int).any fun q => PyData.eqv q p) = true := h
    rw [List.any_eq_true] at h
    obtain ⟨x, hx, h⟩ := h
    obtain ⟨p, hp, rfl⟩ := List.mem_map.mp hx
    rw [any_ints, decide_eq_true_iff] at h
    rcases ha _ ho2 i p with z | z
    · have := seat_pos (t := t') h h2
      omega
    · have := seat_pos (t := t) hp h1
      omega
  · rw [List.any_eq_true]
    rintro ⟨o, ho, h⟩
    obtain ⟨ho2, hsp⟩ := List.mem_filter.mp ho
    obtain ⟨t', n', e', ps', i, rfl, h1, h2⟩ := sh o ho2 hsp
    have h : (t' == t) = true := h
    have h := eq_of_beq h
    subst h
    have := hr _ ho2
    rw [rnd_sit, rnd_sit] at this
    rcases this i t' with z | z
    · have := seat_pos (p := t') (t := t') (ps := [t']) (by simp) h2
      omega
    · have := seat_pos (p := t') (t := t') (ps := [t']) (by simp) h1
      omega
theorem wd_ok (hP : PlanOk pr pk ss) (hO : OneR ss) : wdP (planD pr pk ss) = .none := by
  have hp1 := hP.p1
  have hp2 := hP.p2
  have hk1 := hP.k1
  have hk2 := hP.k2
  have hl := hO.len
  have hv := vs_all hP hO
  have hst := pairs_strict hP hO
  have hap := fit_pair hP.fit
  have har : ss.Pairwise fun a b => Apart (rndS a) (rndS b) := List.pairwise_map.mp (fit_pair hO.rnd)
  have item : ∀ k, k < ss.length → isNonD (iwD pr pk ss k) = true := fun k hk => by
    have hs : ss[k]? = some ss[k] := List.getElem?_eq_getElem hk
    have hm := List.getElem_mem hk
    unfold iwD
    rw [hs]
    show isNonD (if vsB pr pk ss[k] then _ else _) = true
    rw [if_pos (vsB_of (hv _ hm))]
    have behind : ∀ {R : PyData → PyData → Prop}, ss.Pairwise R → ∀ o ∈ ss.take k, R o ss[k] := fun {R} hR o ho => by
      rw [← List.take_append_drop k ss, List.pairwise_append] at hR
      refine hR.2.2 o ho _ ?_
      rw [List.drop_eq_getElem_cons hk]
      exact List.mem_cons_self
    rw [if_neg, bw_ok (hv _ hm) (fun o ho => hv o (List.mem_of_mem_take ho)) (behind hap) (behind har)]
    · rfl
    · rw [Bool.and_eq_true, decide_eq_true_iff]
      rintro ⟨h0, h⟩
      have h1 : k - 1 < ss.length := by omega
      rw [List.getElem?_eq_getElem h1] at h
      have : ss[k - 1] ∈ ss.take k := by
        rw [List.mem_take_iff_getElem]
        exact ⟨k - 1, by omega, rfl⟩
      have := behind hst _ this
      simp only [Option.getD_some] at h
      rw [this] at h
      cases h
  have all : ∀ n, n ≤ ss.length → isNonD (wdL pr pk ss n) = true := by
    intro n
    induction n with
    | zero => intro _; rfl
    | succ n ih => intro h; exact wdL_step (ih (by omega)) (item n (by omega))
  unfold planD
  simp only [wdP, wdS]
  rw [decide_eq_true hp1, decide_eq_true hp2, decide_eq_true hk1, decide_eq_true hk2, decide_eq_false (by omega : ¬ 45 < ss.length)]
  exact non_of (all _ (Nat.le_refl _))
end
end Tr
set_option Elab.async false
set_option linter.all false
set_option maxRecDepth 100000
set_option maxHeartbeats 1000000
set_option exponentiation.threshold 3000
namespace Tr
open PySem PySem.Spec PyProof.Rows L2
theorem sum_permN {α : Type} {f : α → Int} {l m : List α} (h : l.Perm m) : (l.map f).sum = (m.map f).sum := sum_perm h
theorem cell_permN {o u : Prs} (h : o.Perm u) (a b : Nat) : cell o a b = cell u a b := by
  unfold cell sM sS sSS
  rw [sum_permN h, sum_permN (f := fun p => sg p a) h, sum_permN (f := fun p => sg p b) h, sum_permN (f := fun p => sg p a * sg p b) h, h.length_eq]
theorem tots_eq (w : Str) (pr : Int) (es : List Ent) : totalsE w pr es = (List.range pr.toNat).map fun i => (es.map fun x => sg (x.n, x.e) i * gainE w es x).sum := by
  refine List.ext_getElem (by rw [totals_len, List.length_map, List.length_range]) fun i h1 h2 => ?_
  rw [totals_len] at h1
  have := totals_at (w := w) (es := es) h1
  rw [List.getD_eq_getElem?_getD, List.getElem?_eq_getElem (by rw [totals_len]; exact h1)] at this
  rw [List.getElem_map, List.getElem_range]
  exact this
theorem tots_move {w : Str} {pr c : Int} {es es' : List Ent} {φ : Ent → Ent} (h : es'.Perm (es.map φ)) (hn : ∀ x, (φ x).n = x.n) (he : ∀ x, (φ x).e = x.e) (hp : ∀ x ∈ es, ∀ y ∈ es, ((φ y).p = (φ x).p ↔ y.p = x.p))
    (hg : ∀ x ∈ es, ∀ y ∈ es, y.p = x.p → gainV w (φ x).r (φ y).r = c * gainV w x.r y.r) : totalsE w pr es' = (totalsE w pr es).map fun x => c * x := by
  rw [tots_eq, tots_eq, List.map_map]
  refine List.map_congr_left fun i _ => ?_
  have gain : ∀ x ∈ es, gainE w es' (φ x) = c * gainE w es x := fun x hx => by
    unfold gainE
    rw [sum_permN (h.filter fun y => y.p == (φ x).p), List.filter_map, List.map_map]
    have e1 : es.filter ((fun y => y.p == (φ x).p) ∘ φ) = es.filter fun y => y.p == x.p := List.filter_congr fun y hy => by
      rw [Bool.eq_iff_iff]
      simp only [Function.comp, beq_iff_eq]
      exact hp x hx y hy
    rw [e1, ← sum_mul]
    congr 1
    refine List.map_congr_left fun y hy => ?_
    obtain ⟨hy, hyp⟩ := List.mem_filter.mp hy
    exact hg x hx y hy (eq_of_beq hyp)
  show (es'.map fun x => sg (x.n, x.e) i * gainE w es' x).sum = c * (es.map fun x => sg (x.n, x.e) i * gainE w es x).sum
  rw [sum_permN h, List.map_map, ← sum_mul]
  congr 1
  refine List.map_congr_left fun x hx => ?_
  show sg ((φ x).n, (φ x).e) i * gainE w es' (φ x) = _
  rw [gain x hx, hn, he, Int.mul_left_comm]
theorem map_one (T : List Int) : (T.map fun x => 1 * x) = T := by
  conv => rhs; rw [← List.map_id T]
  exact List.map_congr_left fun x _ => Int.one_mul x
/-- the entries of results -/
def entL (pl : List PyData) (rs : List (Option Int)) : List Ent := (zipL pl rs).filterMap entZ
def entF (ρ : PyData → Option Int) (t : PyData) : Option Ent := entZ (.tuple [t, optD (ρ t)])
theorem entL_map (ρ : PyData → Option Int) : ∀ pl : List PyData, entL pl (pl.map ρ) = pl.filterMap (entF ρ)
  | [] => rfl
  | t :: pl => by
    have ih := entL_map ρ pl
    unfold entL at ih ⊢
    have e : zipL (t :: pl) ((t :: pl).map ρ) = .tuple [t, optD (ρ t)] :: zipL pl (pl.map ρ) := rfl
    rw [e, List.filterMap_cons, List.filterMap_cons, ih]
    rfl
/-- results play by play, as a function (the plays are unlike) -/
theorem fun_of : ∀ {pl : List PyData} {rs : List (Option Int)}, pl.Nodup → rs.length = pl.length → ∃ ρ : PyData → Option Int, rs = pl.map ρ
  | [], [], _, _ => ⟨fun _ => none, rfl⟩
  | [], _ :: _, _, h => by simp at h
  | _ :: _, [], _, h => by simp at h
  | t :: pl, r :: rs, hn, hl => by
    obtain ⟨h1, h2⟩ := List.nodup_cons.mp hn
    obtain ⟨ρ, e⟩ := fun_of h2 (show rs.length = pl.length by simpa using hl)
    classical
    refine ⟨fun x => if x = t then r else ρ x, ?_⟩
    rw [List.map_cons, if_pos rfl, e]
    congr 1
    refine List.map_congr_left fun x hx => ?_
    have hne : ¬ x = t := fun z => h1 (by rw [← z]; exact hx)
    exact (if_neg hne).symm
theorem entF_trip {ρ : PyData → Option Int} {p n e : Int} : entF ρ (tripD p n e) = (ρ (tripD p n e)).map fun r => ⟨p.toNat, n.toNat, e.toNat, r⟩ := by
  unfold entF
  cases ρ (tripD p n e) <;> rfl
/-- one more step on each entry -/
theorem ents_step {pr pk : Int} {ρ ρ' : PyData → Option Int} {φ : Ent → Ent} {μ : PyData → PyData} : ∀ {pl : List PyData}, (∀ x ∈ pl, Trip pr pk x) →
    (∀ t ∈ pl, entF ρ' (μ t) = (entF ρ t).map φ) → (pl.map μ).filterMap (entF ρ') = (pl.filterMap (entF ρ)).map φ
  | [], _, _ => rfl
  | t :: pl, h, hs => by
    have ih := ents_step (pl := pl) (fun x hx => h x (by simp [hx])) fun x hx => hs x (by simp [hx])
    rw [List.map_cons, List.filterMap_cons, List.filterMap_cons, hs t (by simp), ih]
    cases entF ρ t <;> rfl
theorem ents_mem {pr pk : Int} {ρ : PyData → Option Int} {pl : List PyData} (h : ∀ x ∈ pl, Trip pr pk x) : ∀ x ∈ pl.filterMap (entF ρ), x.p < pk.toNat := fun x hx => by
  obtain ⟨t, ht, e⟩ := List.mem_filterMap.mp hx
  obtain ⟨p, n, m, rfl, p0, p1, _⟩ := h t ht
  rw [entF_trip] at e
  obtain ⟨r, _, rfl⟩ := Option.map_eq_some_iff.mp e
  show p.toNat < pk.toNat
  omega
section
variable {pr pk : Int} {ss : List PyData}
theorem plays_nodupN (hP : PlanOk pr pk ss) : (playsL ss).Nodup := by
  unfold List.Nodup
  rw [List.pairwise_iff_forall_sublist]
  intro a b hab e
  subst e
  obtain ⟨p, n, m, rfl, p0, _⟩ := plays_all hP a (hab.subset (by simp))
  have hpk : packIs ((p.toNat : Nat) : Int) (tripD p n m) = true := by
    show (p == ((p.toNat : Nat) : Int)) = true
    rw [Int.toNat_of_nonneg p0, beq_self_eq_true]
  have h1 := (hab.filter (packIs ((p.toNat : Nat) : Int))).map sideN
  rw [List.filter_cons, if_pos hpk, List.filter_cons, if_pos hpk, List.filter_nil] at h1
  have h2 : ([(n.toNat, m.toNat), (n.toNat, m.toNat)] : Prs).Sublist (ownP (playsL ss) p.toNat) := h1
  have hh : has n.toNat (n.toNat, m.toNat) = true := by
    unfold has
    rw [beq_self_eq_true, Bool.true_or]
  have h3 := h2.filter (has n.toNat)
  rw [List.filter_cons, if_pos hh, List.filter_cons, if_pos hh, List.filter_nil] at h3
  have h4 := h3.length_le
  rcases seat_of (own_one hP p.toNat) n.toNat with z | ⟨q, z, _⟩
  · rw [z] at h4
    exact absurd h4 (by simp)
  · rw [z] at h4
    exact absurd h4 (by simp)
def luckF (lk : List Int) (t : PyData) (o : Option Int) : Option Int := o.map fun r => r + lk.getD (packN t) 0
theorem tots_luck (hP : PlanOk pr pk ss) {rs : List (Option Int)} (hl : rs.length = (playsL ss).length) (lk : List Int) (w : Str) : totalsE w pr (entL (playsL ss) (List.zipWith (luckF lk) (playsL ss) rs)) = totalsE w pr (entL (playsL ss) rs) := by
  obtain ⟨ρ, e⟩ := fun_of (plays_nodupN hP) hl
  subst e
  have e1 : List.zipWith (luckF lk) (playsL ss) ((playsL ss).map ρ) = (playsL ss).map fun t => luckF lk t (ρ t) := by
    rw [List.zipWith_map_right, List.zipWith_self]
  rw [e1, entL_map, entL_map]
  have h := ents_step (ρ := ρ) (ρ' := fun t => luckF lk t (ρ t)) (φ := fun x => { x with r := x.r + lk.getD x.p 0 }) (μ := id) (plays_all hP) fun t ht => by
    obtain ⟨p, n, m, rfl, _⟩ := plays_all hP t ht
    rw [id, entF_trip, entF_trip]
    unfold luckF
    cases ρ (tripD p n m) <;> rfl
  rw [List.map_id] at h
  rw [h]
  refine (tots_move (c := 1) (φ := fun x => { x with r := x.r + lk.getD x.p 0 }) (List.Perm.refl _) (fun _ => rfl) (fun _ => rfl) (fun x _ y _ => Iff.rfl) fun x _ y _ hy => ?_).trans (map_one _)
  show gainV w (x.r + lk.getD x.p 0) (y.r + lk.getD y.p 0) = 1 * gainV w x.r y.r
  rw [hy, Int.one_mul]
  generalize lk.getD x.p 0 = l
  unfold gainV
  have e1 : (y.r + l < x.r + l) = (y.r < x.r) := by
    apply propext
    omega
  have e2 : (x.r + l < y.r + l) = (x.r < y.r) := by
    apply propext
    omega
  have e3 : x.r + l - (y.r + l) = x.r - y.r := by omega
  simp only [e1, e2, e3]
theorem tots_scale (hP : PlanOk pr pk ss) {rs : List (Option Int)} (hl : rs.length = (playsL ss).length) {t : Int} (ht : 0 < t) (w : Str) (c : Int) (hc : ∀ x y : Int, gainV w (t * x) (t * y) = c * gainV w x y) :
    totalsE w pr (entL (playsL ss) (rs.map fun o => o.map fun r => t * r)) = (totalsE w pr (entL (playsL ss) rs)).map fun x => c * x := by
  obtain ⟨ρ, e⟩ := fun_of (plays_nodupN hP) hl
  subst e
  rw [List.map_map, entL_map, entL_map]
  have h := ents_step (ρ := ρ) (ρ' := (fun o : Option Int => o.map fun r => t * r) ∘ ρ) (φ := fun x => { x with r := t * x.r }) (μ := id) (plays_all hP) fun t ht => by
    obtain ⟨p, n, m, rfl, _⟩ := plays_all hP t ht
    rw [id, entF_trip, entF_trip]
    show ((ρ (tripD p n m)).map _).map _ = _
    cases ρ (tripD p n m) <;> rfl
  rw [List.map_id] at h
  rw [h]
  exact tots_move (φ := fun x => { x with r := t * x.r }) (List.Perm.refl _) (fun _ => rfl) (fun _ => rfl) (fun x _ y _ => Iff.rfl) fun x _ y _ _ => hc x.r y.r
theorem gain_pointsT (t x y : Int) : gainV "points" (t * x) (t * y) = t * gainV "points" x y := by
  show t * x - t * y = t * (x - y)
  rw [Int.mul_sub]
theorem gain_winsT {t : Int} (ht : 0 < t) (x y : Int) : gainV "wins" (t * x) (t * y) = 1 * gainV "wins" x y := by
  have lt : ∀ a b : Int, (t * a < t * b) = (a < b) := fun a b => by
    apply propext
    constructor
    · exact fun h => Int.lt_of_mul_lt_mul_left h (Int.le_of_lt ht)
    · exact fun h => Int.mul_lt_mul_of_pos_left h ht
  rw [Int.one_mul]
  show (if decide (t * y < t * x) then (1 : Int) else 0) - (if decide (t * x < t * y) then 1 else 0) = (if decide (y < x) then (1 : Int) else 0) - (if decide (x < y) then 1 else 0)
  simp only [lt]
end
end Tr
set_option Elab.async false
set_option linter.all false
set_option maxRecDepth 100000
set_option maxHeartbeats 1000000
set_option exponentiation.threshold 3000
namespace Tr
open PySem PySem.Spec PyProof.Rows L2
def revI (pk p : Int) : Int := pk - 1 - p
def mvS (pk : Int) : PyData → PyData
  | .tuple [t, n, e, .tuple ps] => .tuple [t, n, e, .tuple ((ps.map fun d => match d with | .int p => .int (revI pk p) | d => d).reverse)]
  | d => d
def mvT (pk : Int) : PyData → PyData
  | .tuple [.int p, n, e] => .tuple [.int (revI pk p), n, e]
  | d => d
theorem mvS_sit (pk t n e : Int) (ps : List Int) : mvS pk (sitD t n e ps) = sitD t n e (ps.map (revI pk)).reverse := by
  show PyData.tuple [.int t, .int n, .int e, .tuple _] = PyData.tuple [.int t, .int n, .int e, .tuple _]
  rw [List.map_map, List.map_reverse, List.map_map]
  rfl
theorem mvT_trip (pk p n e : Int) : mvT pk (tripD p n e) = tripD (revI pk p) n e := rfl
theorem rev_rev (pk p : Int) : revI pk (revI pk p) = p := by
  unfold revI
  omega
theorem mvT_inv {pr pk : Int} {x : PyData} (h : Trip pr pk x) : mvT pk (mvT pk x) = x := by
  obtain ⟨p, n, e, rfl, _⟩ := h
  rw [mvT_trip, mvT_trip, rev_rev]
theorem trips_mv {pr pk : Int} {s : PyData} (h : Sit pr pk s) : (tripsOf (mvS pk s)).Perm ((tripsOf s).map (mvT pk)) := by
  obtain ⟨t, n, e, ps, rfl, _⟩ := h
  rw [mvS_sit, trips_sit, trips_sit, List.map_map, List.map_reverse, List.map_map]
  exact List.reverse_perm _
theorem flat_mv {pr pk : Int} : ∀ {ss : List PyData}, (∀ s ∈ ss, Sit pr pk s) → ((ss.map (mvS pk)).flatMap tripsOf).Perm ((ss.flatMap tripsOf).map (mvT pk))
  | [], _ => .refl _
  | s :: ss, h => by
    rw [List.map_cons, List.flatMap_cons, List.flatMap_cons, List.map_append]
    exact (trips_mv (h s (by simp))).append (flat_mv fun x hx => h x (by simp [hx]))
section
variable {pr pk : Int} {ss : List PyData}
theorem seat_mv (h : ∀ s ∈ ss, Sit pr pk s) (i p : Int) : seatN i p (ss.map (mvS pk)) = seatN i (revI pk p) ss := by
  unfold seatN
  rw [(flat_mv h).countP_eq, List.countP_map]
  refine List.countP_congr fun x hx => ?_
  obtain ⟨q, n, e, rfl, _⟩ := trips_all h x hx
  show ((revI pk q == p) && (i == n || i == e)) = true ↔ ((q == revI pk p) && (i == n || i == e)) = true
  have : (revI pk q == p) = (q == revI pk p) := by
    rw [Bool.eq_iff_iff, beq_iff_eq, beq_iff_eq]
    unfold revI
    omega
  rw [this]
theorem sit_mv {s : PyData} (h : Sit pr pk s) : Sit pr pk (mvS pk s) := by
  obtain ⟨t, n, e, ps, rfl, a1, a2, a3, a4, a5, a6, a7, a8⟩ := h
  refine ⟨t, n, e, _, mvS_sit .., a1, a2, a3, a4, a5, a6, fun p hp => ?_, by rw [List.length_reverse, List.length_map]; exact a8⟩
  obtain ⟨q, hq, rfl⟩ := List.mem_map.mp (List.mem_reverse.mp hp)
  have := a7 q hq
  unfold revI
  omega
theorem lim_mv {s : PyData} (h : Lim s) : Lim (mvS pk s) := by
  obtain ⟨t, n, e, ps, rfl, a1, a2, a3, a4, a5⟩ := h
  refine ⟨t, n, e, _, mvS_sit .., a1, a2, by rw [List.length_reverse, List.length_map]; exact a3, by rw [List.length_reverse, List.length_map]; exact a4, ?_⟩
  rw [List.pairwise_reverse, List.pairwise_map]
  refine a5.imp fun h => ?_
  unfold revI
  omega
def mvL (pk : Int) (ss : List PyData) : List PyData := (ss.map (mvS pk)).mergeSort dle
theorem mv_plan (hP : PlanOk pr pk ss) (hO : OneR ss) : PlanOk pr pk (mvL pk ss) ∧ OneR (mvL pk ss) := by
  have hsit : ∀ f ∈ ss.map (mvS pk), Sit pr pk f := fun f hf => by
    obtain ⟨s, hs, rfl⟩ := List.mem_map.mp hf
    exact sit_mv (hP.sit s hs)
  have hfit : Fit (ss.map (mvS pk)) := by
    refine ⟨fun f hf => ?_, fun i p => by rw [seat_mv hP.sit]; exact hP.fit.one _ _⟩
    obtain ⟨s, hs, rfl⟩ := List.mem_map.mp hf
    obtain ⟨t, n, e, ps, rfl, _⟩ := hP.sit s hs
    have := hP.fit.ne _ hs
    rw [mvS_sit]
    exact this
  have hone : OneR (ss.map (mvS pk)) := by
    refine ⟨?_, fun f hf => ?_, fun f hf => ?_, by rw [List.length_map]; exact hO.len⟩
    · have e : (ss.map (mvS pk)).map rndS = ss.map rndS := by
        rw [List.map_map]
        refine List.map_congr_left fun s hs => ?_
        obtain ⟨t, n, e, ps, rfl, _⟩ := hP.sit s hs
        show rndS (mvS pk (sitD t n e ps)) = _
        rw [mvS_sit, rnd_sit, rnd_sit]
      rw [e]
      exact hO.rnd
    · obtain ⟨s, hs, rfl⟩ := List.mem_map.mp hf
      obtain ⟨t, n, e, ps, rfl, _, _, a3, _⟩ := hO.lim s hs
      rw [mvS_sit]
      show (!((ps.map (revI pk)).reverse.map PyData.int).isEmpty) = true
      rw [Bool.not_eq_true', Bool.eq_false_iff]
      intro z
      rw [List.isEmpty_iff] at z
      have := congrArg List.length z
      simp at this
      rw [this] at a3
      simp at a3
    · obtain ⟨s, hs, rfl⟩ := List.mem_map.mp hf
      exact lim_mv (hO.lim s hs)
  exact ⟨plan_sorted hP.p1 hP.p2 hP.k1 hP.k2 (by rw [List.length_map]; exact hP.len) hsit hfit, hone.sorted⟩
theorem plays_mv (hP : PlanOk pr pk ss) : (playsL (mvL pk ss)).Perm ((playsL ss).map (mvT pk)) := by
  unfold playsL
  refine (List.mergeSort_perm _ _).trans (List.Perm.trans ?_ ((List.mergeSort_perm _ _).map _).symm)
  exact ((List.mergeSort_perm _ _).flatMap_right tripsOf).trans (flat_mv hP.sit)
theorem sum_revN (g : Nat → Int) (k : Nat) : ((List.range k).map fun p => g (k - 1 - p)).sum = ((List.range k).map g).sum := by
  have : ((List.range k).map fun p => k - 1 - p).Perm (List.range k) := by
    refine (List.perm_ext_iff_of_nodup ?_ List.nodup_range).mpr fun x => ?_
    · refine List.pairwise_map.mpr (List.nodup_range.imp_of_mem fun ha hb h z => h ?_)
      have := List.mem_range.mp ha
      have := List.mem_range.mp hb
      omega
    · rw [List.mem_map, List.mem_range]
      constructor
      · rintro ⟨p, hp, rfl⟩
        have := List.mem_range.mp hp
        omega
      · exact fun hx => ⟨k - 1 - x, List.mem_range.mpr (by omega), by omega⟩
  have e := sum_permN (f := g) this
  rw [List.map_map] at e
  exact e
theorem own_mv (hP : PlanOk pr pk ss) {p : Nat} (hp : p < pk.toNat) : (ownP (playsL (mvL pk ss)) p).Perm (ownP (playsL ss) (pk.toNat - 1 - p)) := by
  unfold ownP
  have h1 := ((plays_mv hP).filter (packIs (p : Nat))).map sideN
  rw [List.filter_map, List.map_map] at h1
  refine h1.trans ?_
  have e1 : (playsL ss).filter (packIs (p : Nat) ∘ mvT pk) = (playsL ss).filter (packIs ((pk.toNat - 1 - p : Nat) : Nat)) := List.filter_congr fun t ht => by
    obtain ⟨q, n, m, rfl, q0, q1, _⟩ := plays_all hP t ht
    show (revI pk q == (p : Int)) = (q == ((pk.toNat - 1 - p : Nat) : Int))
    rw [Bool.eq_iff_iff, beq_iff_eq, beq_iff_eq]
    unfold revI
    omega
  rw [e1]
  refine List.Perm.of_eq (List.map_congr_left fun t ht => ?_)
  obtain ⟨q, n, m, rfl, _⟩ := plays_all hP t (List.mem_filter.mp ht).1
  rfl
theorem tab_mv (hP : PlanOk pr pk ss) : tabK (playsL (mvL pk ss)) pk.toNat = tabK (playsL ss) pk.toNat := by
  funext a b
  unfold tabK
  rw [← sum_revN fun p => cell (ownP (playsL ss) p) a b]
  congr 1
  refine List.map_congr_left fun p hp => ?_
  exact cell_permN (own_mv hP (List.mem_range.mp hp)) a b
def keyI : PyData → List Int
  | .tuple [.int p, .int n, .int e] => [p, n, e]
  | _ => []
def knownL (pk : Int) (pl : List PyData) (rs : List (Option Int)) : List (List Int × PyData) := List.zipWith (fun t o => (keyI (mvT pk t), optD o)) pl rs
theorem known_map (pk : Int) (ρ : PyData → Option Int) (pl : List PyData) : knownL pk pl (pl.map ρ) = pl.map fun t => (keyI (mvT pk t), optD (ρ t)) := by
  unfold knownL
  rw [List.zipWith_map_right, List.zipWith_self]
theorem key_inj {x y : PyData} (hx : Trip pr pk x) (hy : Trip pr pk y) (h : keyI (mvT pk x) = keyI (mvT pk y)) : x = y := by
  obtain ⟨p, n, e, rfl, _⟩ := hx
  obtain ⟨p', n', e', rfl, _⟩ := hy
  rw [mvT_trip, mvT_trip] at h
  simp only [keyI, tripD, List.cons.injEq, and_true] at h
  obtain ⟨h1, rfl, rfl⟩ := h
  have : p = p' := by
    unfold revI at h1
    omega
  rw [this]
theorem known_nodup (hP : PlanOk pr pk ss) {rs : List (Option Int)} (hl : rs.length = (playsL ss).length) : ((knownL pk (playsL ss) rs).map (·.1)).Nodup := by
  obtain ⟨ρ, e⟩ := fun_of (plays_nodupN hP) hl
  subst e
  rw [known_map, List.map_map]
  exact List.pairwise_map.mpr ((plays_nodupN hP).imp_of_mem fun ha hb h z => h (key_inj (plays_all hP _ ha) (plays_all hP _ hb) z))
theorem look_map {α : Type} {pl : List PyData} {f : PyData → List Int} {g : PyData → PyData} {t : PyData} (ht : t ∈ pl) (hi : ∀ x ∈ pl, f x = f t → x = t) : lookK (pl.map fun x => (f x, g x)) (f t) = some (g t) := by
  induction pl with
  | nil => cases ht
  | cons x pl ih =>
    by_cases e : f x = f t
    · have := hi x (by simp) e
      subst this
      simp [lookK, List.find?_cons]
    · rcases List.mem_cons.mp ht with rfl | ht
      · exact absurd rfl e
      · have := ih ht fun y hy => hi y (by simp [hy])
        simp only [lookK, List.map_cons, List.find?_cons, e, decide_false] at this ⊢
        exact this
/-- what is known, play by play of the other plan -/
theorem known_at (hP : PlanOk pr pk ss) {rs : List (Option Int)} (hl : rs.length = (playsL ss).length) : ∃ rs' : List (Option Int), rs'.length = (playsL (mvL pk ss)).length ∧
    (∀ (k : Nat) (t : PyData), (playsL (mvL pk ss))[k]? = some t → ∃ o, rs'[k]? = some o ∧ tkOf t = some (keyI t) ∧ lookK (knownL pk (playsL ss) rs) (keyI t) = some (optD o)) ∧
    ∀ w, totalsE w pr (entL (playsL (mvL pk ss)) rs') = totalsE w pr (entL (playsL ss) rs) := by
  obtain ⟨ρ, e⟩ := fun_of (plays_nodupN hP) hl
  subst e
  have hp := plays_mv hP
  have inv : ∀ t ∈ playsL (mvL pk ss), ∃ x ∈ playsL ss, t = mvT pk x := fun t ht => by
    obtain ⟨x, hx, e⟩ := List.mem_map.mp (hp.mem_iff.mp ht)
    exact ⟨x, hx, e.symm⟩
  refine ⟨(playsL (mvL pk ss)).map fun t => ρ (mvT pk t), by rw [List.length_map], fun k t hk => ?_, fun w => ?_⟩
  · obtain ⟨x, hx, rfl⟩ := inv t (List.mem_of_getElem? hk)
    have hxt := plays_all hP x hx
    refine ⟨ρ x, by rw [List.getElem?_map, hk, Option.map_some, mvT_inv hxt], ?_, ?_⟩
    · obtain ⟨p, n, e, rfl, _⟩ := hxt
      rfl
    · rw [known_map]
      exact look_map (f := fun t => keyI (mvT pk t)) (g := fun t => optD (ρ t)) (α := Unit) hx fun y hy e => key_inj (plays_all hP y hy) hxt e
  · rw [entL_map, entL_map]
    have h := ents_step (ρ := ρ) (ρ' := fun t => ρ (mvT pk t)) (φ := fun x => { x with p := pk.toNat - 1 - x.p }) (μ := mvT pk) (plays_all hP) fun t ht => by
      obtain ⟨p, n, m, rfl, p0, p1, _⟩ := plays_all hP t ht
      rw [mvT_trip, entF_trip, entF_trip, mvT_trip, rev_rev]
      cases ρ (tripD p n m) with
      | none => rfl
      | some r =>
        show some (Ent.mk (revI pk p).toNat n.toNat m.toNat r) = some (Ent.mk (pk.toNat - 1 - p.toNat) n.toNat m.toNat r)
        congr 2
        unfold revI
        omega
    have hperm := hp.filterMap (entF fun t => ρ (mvT pk t))
    rw [h] at hperm
    refine (tots_move (c := 1) hperm (fun _ => rfl) (fun _ => rfl) (fun x hx y hy => ?_) fun x _ y _ _ => by rw [Int.one_mul]).trans (map_one _)
    have h1 := ents_mem (plays_all hP) x hx
    have h2 := ents_mem (plays_all hP) y hy
    show pk.toNat - 1 - y.p = pk.toNat - 1 - x.p ↔ y.p = x.p
    omega
end
section
variable {pr pk : Int} {ss : List PyData}
theorem PlanOk.takeN (hP : PlanOk pr pk ss) (n : Nat) : PlanOk pr pk (ss.take n) where
  p1 := hP.p1
  p2 := hP.p2
  k1 := hP.k1
  k2 := hP.k2
  len := by
    rw [List.length_take]
    have := hP.len
    omega
  sit := fun s hs => hP.sit s (List.mem_of_mem_take hs)
  fit := hP.fit.sub (List.take_sublist _ _)
  srt := hP.srt.sublist (List.take_sublist _ _)
def rdT (k : Nat) : PyData → PyData
  | .tuple [_, n, e, p] => .tuple [.int (k : Nat), n, e, p]
  | d => d
def sprL (ss : List PyData) : List PyData := ss.mapIdx fun k s => rdT k s
theorem rdT_sit (k : Nat) (t n e : Int) (ps : List Int) : rdT k (sitD t n e ps) = sitD (k : Nat) n e ps := rfl
theorem spr_len : (sprL ss).length = ss.length := by unfold sprL; rw [List.length_mapIdx]
theorem spr_at {k : Nat} (h : k < ss.length) : (sprL ss)[k]'(by rw [spr_len]; exact h) = rdT k ss[k] := by
  unfold sprL
  rw [List.getElem_mapIdx]
theorem spr_mem {f : PyData} (h : f ∈ sprL ss) : ∃ k, ∃ hk : k < ss.length, f = rdT k ss[k] := by
  obtain ⟨k, hk, e⟩ := List.mem_iff_getElem.mp h
  rw [spr_len] at hk
  exact ⟨k, hk, by rw [← e, spr_at hk]⟩
theorem spr_trips (hs : ∀ s ∈ ss, Sit pr pk s) : (sprL ss).flatMap tripsOf = ss.flatMap tripsOf := by
  have : (sprL ss).map tripsOf = ss.map tripsOf := by
    refine List.ext_getElem (by rw [List.length_map, List.length_map, spr_len]) fun k h1 h2 => ?_
    rw [List.length_map] at h2
    rw [List.getElem_map, List.getElem_map, spr_at h2]
    obtain ⟨t, n, e, ps, h, _⟩ := hs _ (List.getElem_mem h2)
    rw [h, rdT_sit, trips_sit, trips_sit]
  rw [List.flatMap_def, List.flatMap_def, this]
theorem spr_plays (hs : ∀ s ∈ ss, Sit pr pk s) : playsL (sprL ss) = playsL ss := by
  unfold playsL
  rw [spr_trips hs]
theorem seat_none {i p : Int} : ∀ {fs : List PyData}, (∀ s ∈ fs, seatN i p [s] = 0) → seatN i p fs = 0
  | [], _ => rfl
  | f :: fs, h => by
    rw [seat_cons, h f (by simp), seat_none fun s hs => h s (by simp [hs])]
theorem fit_of_pair : ∀ {fs : List PyData}, (∀ s ∈ fs, neS s = true) → (∀ s ∈ fs, ∀ i p, seatN i p [s] ≤ 1) → fs.Pairwise Apart → Fit fs
  | [], _, _, _ => fit_nil
  | f :: fs, h1, h2, h3 => by
    have ih := fit_of_pair (fs := fs) (fun s hs => h1 s (by simp [hs])) (fun s hs => h2 s (by simp [hs])) (List.pairwise_cons.mp h3).2
    refine ⟨h1, fun i p => ?_⟩
    rw [seat_cons]
    by_cases e : seatN i p [f] = 0
    · rw [e, Nat.zero_add]
      exact ih.one i p
    · rw [seat_none (fs := fs) fun s hs => ?_]
      · exact h2 f (by simp) i p
      · rcases (List.pairwise_cons.mp h3).1 s hs i p with z | z
        · exact absurd z e
        · exact z
theorem spr_plan (hP : PlanOk pr pk ss) (hO : OneR ss) (hl : ss.length ≤ 15) : PlanOk pr pk (sprL ss) ∧ OneR (sprL ss) := by
  have form : ∀ k (hk : k < ss.length), ∃ (t n e : Int) (ps : List Int), ss[k] = sitD t n e ps ∧ rdT k ss[k] = sitD (k : Nat) n e ps ∧ 0 ≤ n ∧ n < pr ∧ 0 ≤ e ∧ e < pr ∧ (∀ p ∈ ps, 0 ≤ p ∧ p < pk) ∧ ps.length ≤ 8 := fun k hk => by
    obtain ⟨t, n, e, ps, h, a1, a2, a3, a4, a5, a6, a7, a8⟩ := hP.sit _ (List.getElem_mem hk)
    exact ⟨t, n, e, ps, h, by rw [h, rdT_sit], a3, a4, a5, a6, a7, a8⟩
  have hne : ∀ f ∈ sprL ss, neS f = true := fun f hf => by
    obtain ⟨k, hk, rfl⟩ := spr_mem hf
    obtain ⟨t, n, e, ps, h1, h2, _⟩ := form k hk
    have := hP.fit.ne _ (List.getElem_mem hk)
    rw [h1] at this
    rw [h2]
    exact this
  refine ⟨⟨hP.p1, hP.p2, hP.k1, hP.k2, by rw [spr_len]; exact hP.len, fun f hf => ?_, ⟨hne, fun i p => ?_⟩, ?_⟩, ?_, fun f hf => ?_, fun f hf => ?_, by rw [spr_len]; omega⟩
  · obtain ⟨k, hk, rfl⟩ := spr_mem hf
    obtain ⟨t, n, e, ps, h1, h2, a3, a4, a5, a6, a7, a8⟩ := form k hk
    rw [h2]
    exact ⟨(k : Nat), n, e, ps, rfl, by omega, by omega, a3, a4, a5, a6, a7, a8⟩
  · unfold seatN
    rw [spr_trips hP.sit]
    exact hP.fit.one i p
  · rw [List.pairwise_iff_getElem]
    intro a b ha hb hab
    rw [spr_len] at ha hb
    obtain ⟨t, n, e, ps, h1, h2, _⟩ := form a ha
    obtain ⟨t', n', e', ps', h1', h2', _⟩ := form b hb
    rw [spr_at ha, spr_at hb, h2, h2']
    unfold dle
    rw [sit_ltD, if_neg (by omega), decide_eq_false (by omega)]
    rfl
  · refine fit_of_pair (fun f hf => ?_) (fun f hf i p => ?_) ?_
    · obtain ⟨s, hs, rfl⟩ := List.mem_map.mp hf
      obtain ⟨k, hk, rfl⟩ := spr_mem hs
      obtain ⟨t, n, e, ps, h1, h2, _⟩ := form k hk
      have := hne _ hs
      rw [h2] at this ⊢
      exact this
    · obtain ⟨s, hs, rfl⟩ := List.mem_map.mp hf
      obtain ⟨k, hk, rfl⟩ := spr_mem hs
      obtain ⟨t, n, e, ps, h1, h2, _⟩ := form k hk
      rw [h2, rnd_sit]
      exact seat_le (by simp)
    · rw [List.pairwise_map, List.pairwise_iff_getElem]
      intro a b ha hb hab i p
      rw [spr_len] at ha hb
      obtain ⟨t, n, e, ps, h1, h2, _⟩ := form a ha
      obtain ⟨t', n', e', ps', h1', h2', _⟩ := form b hb
      rw [spr_at ha, spr_at hb, h2, h2', rnd_sit, rnd_sit, seat_one, seat_one]
      by_cases hp : p = (a : Int)
      · right
        rw [List.countP_eq_zero]
        intro q hq
        rw [List.mem_singleton.mp hq, hp]
        simp
        omega
      · left
        rw [List.countP_eq_zero]
        intro q hq
        rw [List.mem_singleton.mp hq]
        simp
        omega
  · obtain ⟨k, hk, rfl⟩ := spr_mem hf
    obtain ⟨t, n, e, ps, h1, h2, _⟩ := form k hk
    have := hO.pks _ (List.getElem_mem hk)
    rw [h1] at this
    rw [h2]
    exact this
  · obtain ⟨k, hk, rfl⟩ := spr_mem hf
    obtain ⟨t, n, e, ps, h1, h2, _⟩ := form k hk
    obtain ⟨t', n', e', ps', h, a1, a2, a3, a4, a5⟩ := hO.lim _ (List.getElem_mem hk)
    rw [h1] at h
    obtain ⟨rfl, rfl, rfl, rfl⟩ := sitD_inj h
    rw [h2]
    exact ⟨(k : Nat), n, e, ps, rfl, by omega, by omega, a3, a4, a5⟩
end
end Tr
set_option Elab.async false
set_option linter.all false
set_option maxRecDepth 100000
set_option maxHeartbeats 4000000
set_option exponentiation.threshold 9000
namespace Tr
open PySem PySem.Spec PyProof.Rows L2
mutual
theorem eqv_selfN : ∀ (n : Nat) (d : PyData), shal n d = true → PyData.eqv d d = true
  | _, .none, _ => rfl
  | _, .bool b, _ => by cases b <;> rfl
  | _, .int i, _ => beq_self_eq_true i
  | _, .str x, _ => beq_self_eq_true x
  | 0, .list _, h => by simp [shal] at h
  | 0, .tuple _, h => by simp [shal] at h
  | n + 1, .list xs, h => eqv_selfNA n xs h
  | n + 1, .tuple xs, h => eqv_selfNA n xs h
  | n, .dict _, h => by cases n <;> simp [shal] at h
theorem eqv_selfNA : ∀ (n : Nat) (xs : List PyData), xs.all (shal n) = true → PyData.eqvAll xs xs = true
  | _, [], _ => rfl
  | n, x :: xs, h => by
    rw [List.all_cons, Bool.and_eq_true] at h
    show (PyData.eqv x x && PyData.eqvAll xs xs) = true
    rw [eqv_selfN n x h.1, eqv_selfNA n xs h.2]
    rfl
end
theorem cut_toN {α : Type} (xs : List α) (k : Nat) : cutD xs none (some (k : Int)) = xs.take k := by
  unfold cutD
  rw [HT.sIx_none, HT.sIx_nat, List.drop_zero, Nat.sub_zero]
  by_cases h : k ≤ xs.length
  · rw [Nat.min_eq_left h]
  · rw [Nat.min_eq_right (by omega), List.take_length, List.take_of_length_le (by omega)]
theorem shal_tabN30 (P : Nat) (f : TF) : shal 30 (tabD P f) = true := by
  show ((List.range P).map fun i => PyData.tuple (rowD P (f i))).all (shal 29) = true
  rw [List.all_map]
  refine List.all_eq_true.mpr fun i _ => ?_
  show (rowD P (f i)).all (shal 28) = true
  unfold rowD
  rw [List.all_map]
  exact List.all_eq_true.mpr fun j _ => rfl
theorem c_neSelfN {x y : Tv} {a : PyData} {R : Bool → Prop} (h1 : x.frz = some a) (h2 : y.frz = some a) (s : shal 30 a = true) (h : R false) : cmpO .ne x y R :=
  ⟨a, a, h1, h2, s, s, by rw [eqv_selfN 30 a s]; exact h⟩
def b8J : SL := (.cons (.set 15 (.tup (.cons (.sim (.idx (.var 3) (.int 0))) (.cons (.sim (.idx (.var 3) (.int 1))) (.cons (.blt1 .tuple (.lc (.tup (.cons (.sim (.var 19)) (.cons (.sim (.var 22)) (.cons (.sim (.var 23)) (.cons (.sim (.var 24)) .nil))))) (.tup (.cons (.name 19) (.cons (.tup (.cons (.name 21) (.cons (.name 22) (.cons (.name 23) (.cons (.name 24) .nil))))) .nil))) (.enum (.slice (.sim (.idx (.var 3) (.int 2))) .non (.som (.sim (.int 15))))) .non [19, 21, 22, 23, 24])) .nil)))))
  (.cons (.set 16 (.tup (.cons (.sim (.idx (.var 3) (.int 0))) (.cons (.sim (.idx (.var 3) (.int 1))) (.cons (.slice (.sim (.idx (.var 3) (.int 2))) .non (.som (.sim (.int 15)))) .nil)))))
  (.cons (.ite (.or_ (.cons (.notN (.call "plan_error" (.cons (.sim (.var 15)) .nil))) (.cons (.cmp .ne (.call "table" (.cons (.sim (.var 15)) .nil)) (.call "table" (.cons (.sim (.var 16)) .nil))) (.cons (.cmp .ne (.call "plays" (.cons (.sim (.var 15)) .nil)) (.call "plays" (.cons (.sim (.var 16)) .nil))) .nil))))
  (.cons (.ret (.sim (.bl false)))
  .nil)
  .nil)
  .nil)))
def b8I : SL := (.cons (.set 13 (.dmk (.lc (.tup (.cons (.bin .add (.tup (.cons (.sim (.idx (.var 10) (.idx (.var 25) (.int 0)))) .nil)) (.slice (.sim (.var 25)) (.som (.sim (.int 1))) .non)) (.cons (.sim (.var 26)) .nil))) (.tup (.cons (.name 25) (.cons (.name 26) .nil))) (.zip (.sim (.var 4)) (.sim (.var 5))) .non [25, 26])))
  (.cons (.set 14 (.blt1 .tuple (.lc (.dgt 13 (.sim (.var 25))) (.name 25) (.seq (.call "plays" (.cons (.sim (.var 12)) .nil))) .non [25])))
  (.cons (.ite (.or_ (.cons (.cmp .ne (.call "totals" (.cons (.sim (.var 12)) (.cons (.sim (.var 14)) (.cons (.sim (.str "points")) .nil)))) (.sim (.var 17))) (.cons (.cmp .ne (.call "totals" (.cons (.sim (.var 12)) (.cons (.sim (.var 14)) (.cons (.sim (.str "wins")) .nil)))) (.sim (.var 18))) .nil)))
  (.cons (.ret (.sim (.bl false)))
  .nil)
  .nil)
  b8J)))
def b8H : SL := (.cons (.ite (.or_ (.cons (.notN (.call "plan_error" (.cons (.sim (.var 12)) .nil))) (.cons (.cmp .ne (.call "table" (.cons (.sim (.var 12)) .nil)) (.call "table" (.cons (.sim (.var 3)) .nil))) .nil)))
  (.cons (.ret (.sim (.bl false)))
  .nil)
  .nil)
  b8I)
def b8G : SL := (.cons (.set 10 (.rev (.lrng false .non (.sim (.idx (.var 3) (.int 1))))))
  (.cons (.set 11 (.lst .nil))
  (.cons (.for_ (.tup (.cons (.name 19) (.cons (.tup (.cons (.name 21) (.cons (.name 22) (.cons (.name 23) (.cons (.name 24) .nil))))) .nil))) (.enum (.sim (.idx (.var 3) (.int 2))))
  (.cons (.app 11 (.tup (.cons (.sim (.var 21)) (.cons (.sim (.var 22)) (.cons (.sim (.var 23)) (.cons (.blt1 .tuple (.blt1 .sorted (.lc (.sim (.idx (.var 10) (.var 20))) (.name 20) (.seq (.sim (.var 24))) .non [20]))) .nil))))))
  .nil)
  [19, 21, 22, 23, 24])
  (.cons (.set 12 (.tup (.cons (.sim (.idx (.var 3) (.int 0))) (.cons (.sim (.idx (.var 3) (.int 1))) (.cons (.blt1 .tuple (.blt1 .sorted (.sim (.var 11)))) .nil)))))
  b8H))))
def b8F : SL := (.cons (.par [17, 18] (.cons (.call "totals" (.cons (.sim (.var 3)) (.cons (.sim (.var 5)) (.cons (.sim (.str "points")) .nil)))) (.cons (.call "totals" (.cons (.sim (.var 3)) (.cons (.sim (.var 5)) (.cons (.sim (.str "wins")) .nil)))) .nil)))
  (.cons (.ite (.or_ (.cons (.cmp .ne (.call "totals" (.cons (.sim (.var 3)) (.cons (.sim (.var 7)) (.cons (.sim (.str "points")) .nil)))) (.sim (.var 17))) (.cons (.cmp .ne (.call "totals" (.cons (.sim (.var 3)) (.cons (.sim (.var 7)) (.cons (.sim (.str "wins")) .nil)))) (.sim (.var 18))) (.cons (.cmp .ne (.call "totals" (.cons (.sim (.var 3)) (.cons (.sim (.var 9)) (.cons (.sim (.str "wins")) .nil)))) (.sim (.var 18))) .nil))))
  (.cons (.ret (.sim (.bl false)))
  .nil)
  .nil)
  (.cons (.ite (.cmp .ne (.call "totals" (.cons (.sim (.var 3)) (.cons (.sim (.var 9)) (.cons (.sim (.str "points")) .nil)))) (.blt1 .tuple (.lc (.bin .mul (.sim (.var 8)) (.sim (.var 26))) (.name 26) (.seq (.sim (.var 17))) .non [26])))
  (.cons (.ret (.sim (.bl false)))
  .nil)
  .nil)
  b8G)))
def b8E : SL := (.cons (.set 8 (.bin .add (.sim (.int 1)) (.call "_law_take" (.cons (.sim (.var 1)) (.cons (.sim (.int 9)) .nil)))))
  (.cons (.set 9 (.blt1 .tuple (.lc (.ite (.isN (.sim (.var 26))) (.sim .non) (.bin .mul (.sim (.var 8)) (.sim (.var 26)))) (.name 26) (.seq (.sim (.var 5))) .non [26])))
  b8F))
def b8D : SL := (.cons (.set 7 (.blt1 .tuple (.lc (.ite (.isN (.sim (.var 26))) (.sim .non) (.bin .add (.sim (.var 26)) (.sim (.idx (.var 6) (.idx (.var 25) (.int 0)))))) (.tup (.cons (.name 26) (.cons (.name 25) .nil))) (.zip (.sim (.var 5)) (.sim (.var 4))) .non [26, 25])))
  b8E)
def b8C : SL := (.cons (.set 5 (.blt1 .tuple (.lc (.ite (.cmp .eq (.call "_law_take" (.cons (.sim (.var 1)) (.cons (.sim (.int 6)) .nil))) (.sim (.int 0))) (.sim .non) (.bin .sub (.call "_law_take" (.cons (.sim (.var 1)) (.cons (.sim (.int 41)) .nil))) (.sim (.int 20)))) (.name 25) (.seq (.sim (.var 4))) .non [25])))
  (.cons (.set 6 (.lc (.bin .sub (.call "_law_take" (.cons (.sim (.var 1)) (.cons (.sim (.int 201)) .nil))) (.sim (.int 100))) (.name 20) (.rng .non (.sim (.idx (.var 3) (.int 1)))) .non [20]))
  b8D))
def b8A : SL := (.cons (.set 4 (.call "plays" (.cons (.sim (.var 3)) .nil)))
  b8C)
def bLaw08 : SL := (.cons (.set 1 (.call "_law_deck" (.cons (.sim (.var 0)) .nil)))
  (.cons (.for_ (.name 2) (.rng .non (.sim (.int 6)))
  (.cons (.set 3 (.call "_law_plan" (.cons (.sim (.var 1)) (.cons (.ite (.cmp .lt (.sim (.var 2)) (.sim (.int 2))) (.sim (.int 8)) (.sim (.int 6))) .nil))))
  b8A)
  [2, 3, 4, 5, 6, 7, 8, 9, 17, 18, 10, 11, 19, 21, 22, 23, 24, 12, 13, 14, 15, 16])
  (.cons (.ret (.sim (.bl true)))
  .nil)))
section
variable {Γ : Gam} {Φ : Phi} {ns : List Int} {x2 : Option Tv} {pr pk : Int} {ss : List PyData} {D : DE}
theorem shal_trips {l : List PyData} (h : ∀ x ∈ l, Trip pr pk x) : shal 30 (.tuple l) = true := by
  show l.all (shal 29) = true
  refine List.all_eq_true.mpr fun x hx => ?_
  obtain ⟨p, n, e, rfl, _⟩ := h x hx
  rfl
/-- rounds renumbered -/
theorem ok_8J (hE : Φ "plan_error" = some fePlanErr) (hT : Φ "table" = some feTable) (hY : Φ "plays" = some fePlays) (hP : PlanOk pr pk ss) (hO : OneR ss) {d : Tv} {x4 x5 x6 x7 x8 x9 x10 x11 x12 x13 x14 x17 x18 : Option Tv}
    (hD : ∀ x15 x16, D.nx [some (Tv.scr ns), some (d), x2, some (Tv.d (planD pr pk ss)), x4, x5, x6, x7, x8, x9, x10, x11, x12, x13, x14, x15, x16, x17, x18, none, none, none, none, none, none, none, none]) :
    wSL Γ Φ b8J D [some (Tv.scr ns), some (d), x2, some (Tv.d (planD pr pk ss)), x4, x5, x6, x7, x8, x9, x10, x11, x12, x13, x14, none, none, x17, x18, none, none, none, none, none, none, none, none] := by
  have hT15 := hP.takeN 15
  have hO15 : OneR (ss.take 15) := hO.sub (List.take_sublist _ _)
  have hl15 : (ss.take 15).length ≤ 15 := by
    rw [List.length_take]
    omega
  obtain ⟨hS, hSO⟩ := spr_plan hT15 hO15 hl15
  have hcut : cutD ss none (some 15) = ss.take 15 := cut_toN ss 15
  rw [b8J, r_cons]
  simp_arith [planD, at0, at1, at2, hcut, s_tup]
  refine ⟨fun k acc ρ => acc = ((sprL (ss.take 15)).take k).map Tv.d ∧ ρ = [some (Tv.scr ns), some (d), x2, some (Tv.d (planD pr pk ss)), x4, x5, x6, x7, x8, x9, x10, x11, x12, x13, x14, none, none, x17, x18, none, none, none, none, none, none, none, none], ⟨rfl, rfl⟩, ?_, ?_⟩
  · rintro k y acc ρ2 hy ⟨rfl, rfl⟩
    rw [List.getElem?_mapIdx] at hy
    obtain ⟨s, hs, rfl⟩ := Option.map_eq_some_iff.mp hy
    have hk := (List.getElem?_eq_some_iff.mp hs).1
    have hse := (List.getElem?_eq_some_iff.mp hs).2
    obtain ⟨t, n, e, ps, rfl, _⟩ := hT15.sit s (List.mem_of_getElem? hs)
    have hat : (sprL (ss.take 15))[k]? = some (sitD (k : Nat) n e ps) := by
      rw [List.getElem?_eq_getElem (by rw [spr_len]; exact hk), spr_at hk, hse, rdT_sit]
    have hlk : ((sprL (ss.take 15)).take k).length ≤ 15 := by
      rw [List.length_take]
      omega
    simp_arith only [sitD, fz4, List.length_map]
    refine ⟨fun _ => ⟨small64 (by omega), ?_⟩, fun z => (nomatch z)⟩
    rw [take_snoc hat, List.map_append]
    rfl
  · rintro acc ρ2 ⟨rfl, rfl⟩
    have hfull : (sprL (ss.take 15)).take ((ss.take 15).mapIdx fun i x => PyData.tuple [.int (i : Nat), x]).length = sprL (ss.take 15) := by
      rw [List.length_mapIdx, ← spr_len, List.take_length]
    rw [hfull]
    simp_arith [b_tuple, fz3]
    rw [r_cons]
    simp_arith [planD, at0, at1, at2, hcut, s_tup, fz3]
    have hpe := wd_ok hS hSO
    unfold planD at hpe
    have hpl := spr_plays hT15.sit
    rw [r_cons]
    simp_arith [q_call hE rfl, q_call hT rfl, q_call hY rfl, args1, fePlanErr, feTable, fePlays]
    refine ⟨_, rfl, fun rest => ?_⟩
    rw [hpe]
    simp_arith only [frzT, isNonD, f_d, Bool.not_true, if_ff]
    refine ⟨pr, pk, _, rfl, hS, fun rest => ?_⟩
    refine ⟨pr, pk, _, rfl, hT15, fun rest => ?_⟩
    rw [hpl]
    refine c_neSelfN rfl rfl (shal_tabN30 _ _) ?_
    simp_arith only
    refine ⟨pr, pk, _, rfl, hS, fun rest => ?_⟩
    refine ⟨pr, pk, _, rfl, hT15, fun rest => ?_⟩
    rw [hpl]
    refine c_neSelfN rfl rfl (shal_trips (plays_all hT15)) ?_
    simp_arith only
    exact hD _ _
def rvL (n : Nat) : List Int := ((List.range n).map fun k : Nat => (k : Int)).reverse
theorem rvL_len (n : Nat) : (rvL n).length = n := by unfold rvL; rw [List.length_reverse, List.length_map, List.length_range]
theorem rv_at {p : Int} (h0 : 0 ≤ p) (h1 : p < pk) : atI (((rvL pk.toNat).map PyData.int).map Tv.d) p = some (.d (.int (revI pk p))) := by
  obtain ⟨q, rfl⟩ : ∃ q : Nat, p = (q : Int) := ⟨p.toNat, by omega⟩
  refine atI_nat (j := q) ?_
  have hq : q < (rvL pk.toNat).length := by rw [rvL_len]; omega
  rw [List.getElem?_map, List.getElem?_map, List.getElem?_eq_getElem hq]
  show some (Tv.d (.int _)) = _
  have : (rvL pk.toNat)[q] = revI pk (q : Int) := by
    unfold rvL at hq ⊢
    rw [List.getElem_reverse, List.getElem_map, List.getElem_range]
    simp only [List.length_map, List.length_range]
    unfold revI
    omega
  rw [this]
def mvP (pk : Int) (t : PyData) (o : Option Int) : PyData := .tuple [mvT pk t, optD o]
theorem tprs_known : ∀ {pl : List PyData} {rs : List (Option Int)}, (∀ x ∈ pl, Trip pr pk x) → tprs (List.zipWith (mvP pk) pl rs) = some (knownL pk pl rs)
  | [], _, _ => by simp [knownL, tprs]
  | _ :: _, [], _ => by simp [knownL, tprs]
  | t :: pl, r :: rs, h => by
    have ih := tprs_known (pl := pl) (rs := rs) fun x hx => h x (by simp [hx])
    obtain ⟨p, n, e, rfl, _⟩ := h t (by simp)
    rw [List.zipWith_cons_cons]
    unfold mvP knownL at *
    rw [tprs, ih]
    rfl
theorem zip_atN {pl : List PyData} {rs : List (Option Int)} {k : Nat} {y : PyData} (h : (List.zipWith (fun p q => PyData.tuple [p, q]) pl (rs.map optD))[k]? = some y) : ∃ t o, pl[k]? = some t ∧ rs[k]? = some o ∧ y = .tuple [t, optD o] := zip_at h
theorem ok_8I (hE : Φ "plan_error" = some fePlanErr) (hT : Φ "table" = some feTable) (hY : Φ "plays" = some fePlays) (hW : Φ "totals" = some feTotals) (hP : PlanOk pr pk ss) (hO : OneR ss) {d : Tv} {rs : List (Option Int)} (hl : rs.length = (playsL ss).length) {x6 x7 x8 x9 x11 : Option Tv}
    (hD : ∀ x13 x14 x15 x16 x17 x18, D.nx [some (Tv.scr ns), some (d), x2, some (Tv.d (planD pr pk ss)), some (.d (.tuple (playsL ss))), some (.d (.tuple (rs.map optD))), x6, x7, x8, x9, some (.own (((rvL pk.toNat).map .int).map .d)), x11, some (.d (planD pr pk (mvL pk ss))), x13, x14, x15, x16, x17, x18, none, none, none, none, none, none, none, none]) :
    wSL Γ Φ b8I D [some (Tv.scr ns), some (d), x2, some (Tv.d (planD pr pk ss)), some (.d (.tuple (playsL ss))), some (.d (.tuple (rs.map optD))), x6, x7, x8, x9, some (.own (((rvL pk.toNat).map .int).map .d)), x11, some (.d (planD pr pk (mvL pk ss))), none, none, none, none, some (.d (.tuple ((totalsE "points" pr (entL (playsL ss) rs)).map .int))), some (.d (.tuple ((totalsE "wins" pr (entL (playsL ss) rs)).map .int))), none, none, none, none, none, none, none, none] := by
  have hpl := plays_len hP
  obtain ⟨hM, hMO⟩ := mv_plan hP hO
  obtain ⟨rs', hl', hat, htot⟩ := known_at hP hl
  have hplM := plays_len hM
  rw [b8I, r_cons]
  simp_arith
  refine ⟨fun k acc ρ => acc = ((List.zipWith (mvP pk) (playsL ss) rs).take k).map Tv.d ∧ ρ = [some (Tv.scr ns), some (d), x2, some (Tv.d (planD pr pk ss)), some (.d (.tuple (playsL ss))), some (.d (.tuple (rs.map optD))), x6, x7, x8, x9, some (.own (((rvL pk.toNat).map .int).map .d)), x11, some (.d (planD pr pk (mvL pk ss))), none, none, none, none, some (.d (.tuple ((totalsE "points" pr (entL (playsL ss) rs)).map .int))), some (.d (.tuple ((totalsE "wins" pr (entL (playsL ss) rs)).map .int))), none, none, none, none, none, none, none, none], ⟨rfl, rfl⟩, ?_, ?_⟩
  · rintro k y acc ρ2 hy ⟨rfl, rfl⟩
    obtain ⟨t, o, ht, ho, rfl⟩ := zip_atN hy
    obtain ⟨p, n, e, rfl, p0, p1, _⟩ := plays_all hP t (List.mem_of_getElem? ht)
    have hk : k < (playsL ss).length := (List.getElem?_eq_some_iff.mp ht).1
    have hz : (List.zipWith (mvP pk) (playsL ss) rs)[k]? = some (mvP pk (tripD p n e) o) := by
      rw [List.getElem?_zipWith, ht, ho]
    have hlk : ((List.zipWith (mvP pk) (playsL ss) rs).take k).length ≤ 480 := by
      rw [List.length_take, List.length_zipWith]
      omega
    simp_arith only [tripD, at0, rv_at p0 p1]
    refine ⟨fun _ => ⟨_, fz1, ?_⟩, fun z => (nomatch z)⟩
    rw [s_tup]
    have hc : cutD [PyData.int p, .int n, .int e] (some 1) none = [.int n, .int e] := rfl
    rw [hc]
    refine ⟨by rw [sizeLine_eq]; exact (by decide : 1 + 2 ≤ 16777216), _, fz2, ?_, ?_⟩
    · rw [List.length_map]
      exact small64 (by omega)
    · rw [take_snoc hz, List.map_append]
      rfl
  · rintro acc ρ2 ⟨rfl, rfl⟩
    have hfull : (List.zipWith (mvP pk) (playsL ss) rs).take (List.zipWith (fun p q => PyData.tuple [p, q]) (playsL ss) (rs.map optD)).length = List.zipWith (mvP pk) (playsL ss) rs := by
      refine List.take_of_length_le ?_
      rw [List.length_zipWith, List.length_zipWith, List.length_map]
      exact Nat.le_refl _
    rw [hfull]
    simp_arith [f_own, tprs_known (plays_all hP)]
    have hkl : (knownL pk (playsL ss) rs).length ≤ 480 := by
      unfold knownL
      rw [List.length_zipWith]
      omega
    refine ⟨known_nodup hP hl, by omega, ?_⟩
    generalize hK : knownL pk (playsL ss) rs = kvs at hat
    rw [r_cons]
    simp_arith [q_call hY rfl, args1, fePlays]
    refine ⟨pr, pk, mvL pk ss, rfl, hM, fun rest => ?_⟩
    simp_arith
    refine ⟨fun k acc ρ => acc = ((rs'.take k).map optD).map Tv.d ∧ ρ = [some (Tv.scr ns), some (d), x2, some (Tv.d (planD pr pk ss)), some (.d (.tuple (playsL ss))), some (.d (.tuple (rs.map optD))), x6, x7, x8, x9, some (.own (((rvL pk.toNat).map .int).map .d)), x11, some (.d (planD pr pk (mvL pk ss))), some (.map (.t kvs)), none, none, none, some (.d (.tuple ((totalsE "points" pr (entL (playsL ss) rs)).map .int))), some (.d (.tuple ((totalsE "wins" pr (entL (playsL ss) rs)).map .int))), none, none, none, none, none, none, none, none], ⟨rfl, rfl⟩, ?_, ?_⟩
    · rintro k t acc ρ2 ht ⟨rfl, rfl⟩
      obtain ⟨o, ho, hk1, hk2⟩ := hat k t ht
      have hk : k < (playsL (mvL pk ss)).length := (List.getElem?_eq_some_iff.mp ht).1
      have hlk : (rs'.take k).length ≤ 480 := by
        rw [List.length_take]
        omega
      simp_arith only
      refine ⟨fun _ => ⟨⟨_, rfl⟩, _, rfl, _, hk1, _, hk2, by rw [List.length_map, List.length_map]; exact small64 (by omega), ?_⟩, fun z => (nomatch z)⟩
      rw [take_snoc ho, List.map_append, List.map_append]
      rfl
    · rintro acc ρ2 ⟨rfl, rfl⟩
      rw [← hl', List.take_length]
      simp_arith [b_tuple]
      rw [r_cons]
      simp_arith [q_call hW rfl, args33, feTotals]
      refine ⟨pr, pk, mvL pk ss, rs', "points", rfl, hM, hl', fun rest => ?_⟩
      refine c_neSelfN rfl (by rw [← htot]; rfl) (shal_ints 29 _) ?_
      simp_arith only
      refine ⟨pr, pk, mvL pk ss, rs', "wins", rfl, hM, hl', fun rest => ?_⟩
      refine c_neSelfN rfl (by rw [← htot]; rfl) (shal_ints 29 _) ?_
      simp_arith only
      exact ok_8J hE hT hY hP hO fun x15 x16 => hD _ _ _ _ _ _
end
end Tr
set_option Elab.async false
set_option linter.all false
set_option maxRecDepth 100000
set_option maxHeartbeats 4000000
set_option exponentiation.threshold 9000
namespace Tr
open PySem PySem.Spec PyProof.Rows L2
section
variable {Γ : Gam} {Φ : Phi} {ns : List Int} {x2 : Option Tv} {pr pk : Int} {ss : List PyData} {D : DE} {rs : List (Option Int)}
theorem ok_8H (hE : Φ "plan_error" = some fePlanErr) (hT : Φ "table" = some feTable) (hY : Φ "plays" = some fePlays) (hW : Φ "totals" = some feTotals) (hP : PlanOk pr pk ss) (hO : OneR ss) {d : Tv} (hl : rs.length = (playsL ss).length) {x6 x7 x8 x9 x11 : Option Tv}
    (hD : ∀ x13 x14 x15 x16 x17 x18, D.nx [some (Tv.scr ns), some (d), x2, some (Tv.d (planD pr pk ss)), some (.d (.tuple (playsL ss))), some (.d (.tuple (rs.map optD))), x6, x7, x8, x9, some (.own (((rvL pk.toNat).map .int).map .d)), x11, some (.d (planD pr pk (mvL pk ss))), x13, x14, x15, x16, x17, x18, none, none, none, none, none, none, none, none]) :
    wSL Γ Φ b8H D [some (Tv.scr ns), some (d), x2, some (Tv.d (planD pr pk ss)), some (.d (.tuple (playsL ss))), some (.d (.tuple (rs.map optD))), x6, x7, x8, x9, some (.own (((rvL pk.toNat).map .int).map .d)), x11, some (.d (planD pr pk (mvL pk ss))), none, none, none, none, some (.d (.tuple ((totalsE "points" pr (entL (playsL ss) rs)).map .int))), some (.d (.tuple ((totalsE "wins" pr (entL (playsL ss) rs)).map .int))), none, none, none, none, none, none, none, none] := by
  obtain ⟨hM, hMO⟩ := mv_plan hP hO
  rw [b8H, r_cons]
  simp_arith [q_call hE rfl, q_call hT rfl, args1, fePlanErr, feTable]
  refine ⟨_, rfl, fun rest => ?_⟩
  rw [wd_ok hM hMO]
  simp_arith only [frzT, isNonD, f_d, Bool.not_true, if_ff]
  refine ⟨pr, pk, _, rfl, hM, fun rest => ?_⟩
  refine ⟨pr, pk, _, rfl, hP, fun rest => ?_⟩
  rw [tab_mv hP]
  refine c_neSelfN rfl rfl (shal_tabN30 _ _) ?_
  simp_arith only
  exact ok_8I hE hT hY hW hP hO hl hD
theorem dle_intN (x y : Int) : dle (.int x) (.int y) = decide (x ≤ y) := by
  unfold dle
  rw [show PySem.W.dataLt (.int y) (.int x) = decide (y < x) from PySem.W.dataLt_int ..]
  by_cases h : x ≤ y
  · rw [decide_eq_true h, decide_eq_false (by omega)]
    rfl
  · rw [decide_eq_false h, decide_eq_true (by omega)]
    rfl
theorem sort_is {l m : List Int} (h : l.Perm m) (hs : m.Pairwise (· ≤ ·)) : (l.map PyData.int).mergeSort dle = m.map PyData.int := by
  have hp : ((l.map PyData.int).mergeSort dle).Perm (m.map PyData.int) := (List.mergeSort_perm _ _).trans (h.map _)
  refine hp.eq_of_pairwise (le := fun a b => dle a b = true) ?_ (sort_srt _) ?_
  · intro a b ha hb h1 h2
    obtain ⟨x, _, rfl⟩ := List.mem_map.mp (hp.mem_iff.mp ha)
    obtain ⟨y, _, rfl⟩ := List.mem_map.mp hb
    rw [dle_intN, decide_eq_true_iff] at h1 h2
    have : x = y := by omega
    rw [this]
  · exact List.pairwise_map.mpr (hs.imp fun h => by rw [dle_intN, decide_eq_true_iff]; exact h)
theorem ints_sortN (l : List Int) : SortOk (l.map PyData.int) where
  al := fun a ha b hb => by
    obtain ⟨i, _, rfl⟩ := List.mem_map.mp ha
    obtain ⟨j, _, rfl⟩ := List.mem_map.mp hb
    simp [PySem.W.alike]
  so := .inr fun d hd => by
    obtain ⟨i, _, rfl⟩ := List.mem_map.mp hd
    exact ⟨(nomatch ·), fun _ z => (nomatch z)⟩
  sh := fun x hx => by
    obtain ⟨i, _, rfl⟩ := List.mem_map.mp hx
    rfl
theorem ok_8G (hE : Φ "plan_error" = some fePlanErr) (hT : Φ "table" = some feTable) (hY : Φ "plays" = some fePlays) (hW : Φ "totals" = some feTotals) (hP : PlanOk pr pk ss) (hO : OneR ss) {d : Tv} (hl : rs.length = (playsL ss).length) {x6 x7 x8 x9 : Option Tv}
    (hD : ∀ x10 x11 x12 x13 x14 x15 x16 x17 x18, D.nx [some (Tv.scr ns), some (d), x2, some (Tv.d (planD pr pk ss)), some (.d (.tuple (playsL ss))), some (.d (.tuple (rs.map optD))), x6, x7, x8, x9, x10, x11, x12, x13, x14, x15, x16, x17, x18, none, none, none, none, none, none, none, none]) :
    wSL Γ Φ b8G D [some (Tv.scr ns), some (d), x2, some (Tv.d (planD pr pk ss)), some (.d (.tuple (playsL ss))), some (.d (.tuple (rs.map optD))), x6, x7, x8, x9, none, none, none, none, none, none, none, some (.d (.tuple ((totalsE "points" pr (entL (playsL ss) rs)).map .int))), some (.d (.tuple ((totalsE "wins" pr (entL (playsL ss) rs)).map .int))), none, none, none, none, none, none, none, none] := by
  have hk1 := hP.k1
  have hk2 := hP.k2
  have hlen := hP.len
  obtain ⟨hM, hMO⟩ := mv_plan hP hO
  have e3 : (List.range pk.toNat).map (fun k : Nat => Tv.d (PyData.int (k : Int))) = (((List.range pk.toNat).map fun k : Nat => (k : Int)).map PyData.int).map .d := by
    rw [List.map_map, List.map_map]
    rfl
  rw [b8G, r_cons]
  simp_arith [planD, at1]
  refine ⟨by decide, by decide, by omega, by omega, by omega, ?_⟩
  rw [if_neg (by decide), e3, rev_own, ← List.map_reverse]
  show wSL Γ Φ _ _ [some (Tv.scr ns), some d, x2, some (Tv.d (planD pr pk ss)), some (.d (.tuple (playsL ss))), some (.d (.tuple (rs.map optD))), x6, x7, x8, x9, some (.own (((rvL pk.toNat).map .int).map .d)), none, none, none, none, none, none, some (.d (.tuple ((totalsE "points" pr (entL (playsL ss) rs)).map .int))), some (.d (.tuple ((totalsE "wins" pr (entL (playsL ss) rs)).map .int))), none, none, none, none, none, none, none, none]
  rw [r_cons]
  simp_arith
  rw [r_cons]
  simp_arith [planD, at2]
  refine ⟨fun k ρ => ρ = [some (Tv.scr ns), some (d), x2, some (Tv.d (planD pr pk ss)), some (.d (.tuple (playsL ss))), some (.d (.tuple (rs.map optD))), x6, x7, x8, x9, some (.own (((rvL pk.toNat).map .int).map .d)), some (.own ((((ss.take k).map (mvS pk))).map .d)), none, none, none, none, none, some (.d (.tuple ((totalsE "points" pr (entL (playsL ss) rs)).map .int))), some (.d (.tuple ((totalsE "wins" pr (entL (playsL ss) rs)).map .int))), none, none, none, none, none, none, none, none], rfl, ?_, ?_⟩
  · rintro k y ρ2 hy rfl
    rw [List.getElem?_mapIdx] at hy
    obtain ⟨s, hs, rfl⟩ := Option.map_eq_some_iff.mp hy
    have hk := (List.getElem?_eq_some_iff.mp hs).1
    obtain ⟨t, n, e, ps, rfl, a1, a2, a3, a4, a5⟩ := hO.lim s (List.mem_of_getElem? hs)
    obtain ⟨t', n', e', ps', hh, b1, b2, b3, b4, b5, b6, b7, b8⟩ := hP.sit _ (List.mem_of_getElem? hs)
    obtain ⟨rfl, rfl, rfl, rfl⟩ := sitD_inj hh
    have hlk : ((ss.take k).map (mvS pk)).length ≤ 60 := by
      rw [List.length_map, List.length_take]
      omega
    simp_arith [sitD]
    rw [r_cons]
    simp_arith
    refine ⟨fun j acc ρ => acc = (((ps.take j).map (revI pk)).map PyData.int).map Tv.d ∧ ρ = [some (Tv.scr ns), some d, x2, some (Tv.d (planD pr pk ss)), some (.d (.tuple (playsL ss))), some (.d (.tuple (rs.map optD))), x6, x7, x8, x9, some (.own (((rvL pk.toNat).map .int).map .d)), some (.own (((ss.take k).map (mvS pk)).map .d)), none, none, none, none, none, some (.d (.tuple ((totalsE "points" pr (entL (playsL ss) rs)).map .int))), some (.d (.tuple ((totalsE "wins" pr (entL (playsL ss) rs)).map .int))), some (.d (.int (k : Nat))), none, some (.d (.int t)), some (.d (.int n)), some (.d (.int e)), some (.d (.tuple (ps.map .int))), none, none], ⟨rfl, rfl⟩, ?_, ?_⟩
    · rintro j y acc ρ3 hy ⟨rfl, rfl⟩
      rw [List.getElem?_map] at hy
      obtain ⟨p, hp, rfl⟩ := Option.map_eq_some_iff.mp hy
      have hpp := b7 p (List.mem_of_getElem? hp)
      have hlj : (ps.take j).length ≤ 8 := by
        rw [List.length_take]
        omega
      simp_arith only [rv_at hpp.1 hpp.2, List.length_map]
      refine ⟨fun _ => ⟨small64 (by omega), ?_⟩, fun z => (nomatch z)⟩
      rw [take_snoc hp, List.map_append, List.map_append, List.map_append]
      rfl
    · rintro acc ρ3 ⟨rfl, rfl⟩
      rw [List.length_map, List.take_length]
      have hsr : ((ps.map (revI pk)).map PyData.int).mergeSort dle = ((ps.map (revI pk)).reverse).map .int := sort_is (List.reverse_perm _).symm (by
        rw [List.pairwise_reverse, List.pairwise_map]
        refine a5.imp fun h => ?_
        unfold revI
        omega)
      refine ⟨_, _, _, rfl, f_own, rfl, ints_sortN _, ?_⟩
      rw [hsr]
      simp_arith only [b_tuple, fz4, List.length_map]
      refine ⟨small64 (by rw [List.length_take]; omega), ?_⟩
      rw [take_snoc hs, List.map_append, List.map_append, List.map_cons, List.map_nil, mvS_sit]
      rfl
  · rintro ρ2 rfl
    rw [List.length_mapIdx, List.take_length]
    show wSL Γ Φ _ _ _
    rw [r_cons]
    simp_arith [planD, at0, at1, f_own]
    have hsit : ∀ f ∈ ss.map (mvS pk), Sit pr pk f := fun f hf => by
      obtain ⟨s, hs, rfl⟩ := List.mem_map.mp hf
      exact sit_mv (hP.sit s hs)
    refine b_sortedD (sits_ok hsit) ?_
    simp_arith [b_tuple, fz3]
    exact ok_8H hE hT hY hW hP hO hl fun x13 x14 x15 x16 x17 x18 => hD _ _ _ _ _ _ _ _ _
/-- totals -/
theorem tot_any {w : Str} (hP : PlanOk pr pk ss) (hl : rs.length = (playsL ss).length) {Q : Tv → List (Option Tv) → Prop} (hq : ∀ rest, Q (.d (.tuple ((totalsE w pr (entL (playsL ss) rs)).map .int))) rest) :
    spTotals [.d (planD pr pk ss), .d (.tuple (rs.map optD)), .d (.str w)] Q := ⟨pr, pk, ss, rs, w, rfl, hP, hl, hq⟩
def farR (lk : List Int) (pl : List PyData) (rs : List (Option Int)) : List (Option Int) := List.zipWith (luckF lk) pl rs
def greatR (t : Int) (rs : List (Option Int)) : List (Option Int) := rs.map fun o => o.map fun r => t * r
theorem ok_8F (hE : Φ "plan_error" = some fePlanErr) (hT : Φ "table" = some feTable) (hY : Φ "plays" = some fePlays) (hW : Φ "totals" = some feTotals) (hP : PlanOk pr pk ss) (hO : OneR ss) {d : Tv} (hl : rs.length = (playsL ss).length) {lk : List Int} {t : Int} (ht : 0 < t) (ht9 : t ≤ 9) {x6 : Option Tv}
    (hD : ∀ x7 x9 x10 x11 x12 x13 x14 x15 x16 x17 x18, D.nx [some (Tv.scr ns), some (d), x2, some (Tv.d (planD pr pk ss)), some (.d (.tuple (playsL ss))), some (.d (.tuple (rs.map optD))), x6, x7, some (.d (.int t)), x9, x10, x11, x12, x13, x14, x15, x16, x17, x18, none, none, none, none, none, none, none, none]) :
    wSL Γ Φ b8F D [some (Tv.scr ns), some (d), x2, some (Tv.d (planD pr pk ss)), some (.d (.tuple (playsL ss))), some (.d (.tuple (rs.map optD))), x6, some (.d (.tuple ((farR lk (playsL ss) rs).map optD))), some (.d (.int t)), some (.d (.tuple ((greatR t rs).map optD))), none, none, none, none, none, none, none, none, none, none, none, none, none, none, none, none, none] := by
  have hp2 := hP.p2
  have hlf : (farR lk (playsL ss) rs).length = (playsL ss).length := by
    unfold farR
    rw [List.length_zipWith]
    omega
  have hlg : (greatR t rs).length = (playsL ss).length := by
    unfold greatR
    rw [List.length_map, hl]
  have tl : ∀ w, (totalsE w pr (entL (playsL ss) rs)).length ≤ 10 := fun w => by
    rw [totals_len]
    omega
  rw [b8F, r_cons]
  simp_arith [q_call hW rfl, args33, feTotals]
  refine tot_any hP hl fun rest => ?_
  refine tot_any hP hl fun rest => ?_
  simp_arith [List.zip_cons_cons, List.zip_nil_right, List.foldl_cons, List.foldl_nil]
  refine ⟨by decide, by decide, ?_⟩
  rw [r_cons]
  simp_arith [q_call hW rfl, args33, feTotals]
  refine tot_any hP hlf fun rest => ?_
  refine c_neSelfN (a := .tuple ((totalsE "points" pr (entL (playsL ss) rs)).map .int)) (by unfold farR; rw [tots_luck hP hl]; rfl) rfl (shal_ints 29 _) ?_
  simp_arith only
  refine tot_any hP hlf fun rest => ?_
  refine c_neSelfN (a := .tuple ((totalsE "wins" pr (entL (playsL ss) rs)).map .int)) (by unfold farR; rw [tots_luck hP hl]; rfl) rfl (shal_ints 29 _) ?_
  simp_arith only
  refine tot_any hP hlg fun rest => ?_
  refine c_neSelfN (a := .tuple ((totalsE "wins" pr (entL (playsL ss) rs)).map .int)) (by unfold greatR; rw [tots_scale hP hl ht "wins" 1 (gain_winsT ht), map_one]; rfl) rfl (shal_ints 29 _) ?_
  simp_arith only [q_call hW rfl, args33, feTotals]
  refine tot_any hP hlg fun rest => ?_
  refine ⟨fun k acc ρ => acc = ((((totalsE "points" pr (entL (playsL ss) rs)).take k).map fun x => t * x).map PyData.int).map Tv.d ∧ ρ = [some (Tv.scr ns), some (d), x2, some (Tv.d (planD pr pk ss)), some (.d (.tuple (playsL ss))), some (.d (.tuple (rs.map optD))), x6, some (.d (.tuple ((farR lk (playsL ss) rs).map optD))), some (.d (.int t)), some (.d (.tuple ((greatR t rs).map optD))), none, none, none, none, none, none, none, some (.d (.tuple ((totalsE "points" pr (entL (playsL ss) rs)).map .int))), some (.d (.tuple ((totalsE "wins" pr (entL (playsL ss) rs)).map .int))), none, none, none, none, none, none, none, none], ⟨rfl, rfl⟩, ?_, ?_⟩
  · rintro k y acc ρ2 hy ⟨rfl, rfl⟩
    rw [List.getElem?_map] at hy
    obtain ⟨x, hx, rfl⟩ := Option.map_eq_some_iff.mp hy
    have hk := (List.getElem?_eq_some_iff.mp hx).1
    have := tl "points"
    simp_arith only [List.length_map, List.length_take]
    refine ⟨fun _ => ⟨m_small' (by omega) (by omega), small64 (by omega), ?_⟩, fun z => (nomatch z)⟩
    rw [take_snoc hx, List.map_append, List.map_append, List.map_append]
    rfl
  · rintro acc ρ2 ⟨rfl, rfl⟩
    rw [List.length_map, List.take_length]
    simp_arith only [b_tuple]
    refine c_neSelfN (a := .tuple (((totalsE "points" pr (entL (playsL ss) rs)).map fun x => t * x).map .int)) (by unfold greatR; rw [tots_scale hP hl ht "points" t (gain_pointsT t)]; rfl) rfl (shal_ints 29 _) ?_
    simp_arith only
    exact ok_8G hE hT hY hW hP hO hl fun x10 x11 x12 x13 x14 x15 x16 x17 x18 => hD _ _ _ _ _ _ _ _ _ _ _
/-- what is drawn -/
theorem ok_8E (hE : Φ "plan_error" = some fePlanErr) (hT : Φ "table" = some feTable) (hY : Φ "plays" = some fePlays) (hW : Φ "totals" = some feTotals) (hK : Φ "_law_take" = some feTake3) (hP : PlanOk pr pk ss) (hO : OneR ss) {a b c : Int} (hl : rs.length = (playsL ss).length) {lk : List Int}
    (hD : ∀ a b c x6 x7 x8 x9 x10 x11 x12 x13 x14 x15 x16 x17 x18, D.nx [some (Tv.scr ns), some (deck a b c), x2, some (Tv.d (planD pr pk ss)), some (.d (.tuple (playsL ss))), some (.d (.tuple (rs.map optD))), x6, x7, x8, x9, x10, x11, x12, x13, x14, x15, x16, x17, x18, none, none, none, none, none, none, none, none]) :
    wSL Γ Φ b8E D [some (Tv.scr ns), some (deck a b c), x2, some (Tv.d (planD pr pk ss)), some (.d (.tuple (playsL ss))), some (.d (.tuple (rs.map optD))), some (.own ((lk.map .int).map .d)), some (.d (.tuple ((farR lk (playsL ss) rs).map optD))), none, none, none, none, none, none, none, none, none, none, none, none, none, none, none, none, none, none, none] := by
  have hpl := plays_len hP
  rw [b8E, r_cons]
  simp_arith [q_callO hK rfl, args1, feTake3]
  refine ⟨_, rfl, a, b, c, _, rfl, by decide, by decide, fun r a b c rest r0 r1 => ?_⟩
  simp_arith
  have ht : 0 < 1 + r := by omega
  have ht9 : 1 + r ≤ 9 := by omega
  generalize 1 + r = t at ht ht9
  rw [r_cons]
  simp_arith
  refine ⟨fun k acc ρ => acc = (((greatR t rs).take k).map optD).map Tv.d ∧ ρ = [some (Tv.scr ns), some (deck a b c), x2, some (Tv.d (planD pr pk ss)), some (.d (.tuple (playsL ss))), some (.d (.tuple (rs.map optD))), some (.own ((lk.map .int).map .d)), some (.d (.tuple ((farR lk (playsL ss) rs).map optD))), some (.d (.int t)), none, none, none, none, none, none, none, none, none, none, none, none, none, none, none, none, none, none], ⟨rfl, rfl⟩, ?_, ?_⟩
  · rintro k y acc ρ2 hy ⟨rfl, rfl⟩
    rw [List.getElem?_map] at hy
    obtain ⟨o, ho, rfl⟩ := Option.map_eq_some_iff.mp hy
    have hk := (List.getElem?_eq_some_iff.mp ho).1
    have hg : (greatR t rs)[k]? = some (o.map fun r => t * r) := by
      unfold greatR
      rw [List.getElem?_map, ho]
      rfl
    have hlk : ((greatR t rs).take k).length ≤ 480 := by
      rw [List.length_take]
      omega
    have snoc : (((greatR t rs).take k).map optD).map Tv.d ++ [Tv.d (optD (o.map fun r => t * r))] = (((greatR t rs).take (k + 1)).map optD).map Tv.d := by
      rw [take_snoc hg, List.map_append, List.map_append]
      rfl
    cases o with
    | none =>
      simp_arith only [optD, frzT, isNonD, f_d, List.length_map]
      exact ⟨fun _ => ⟨small64 (by omega), snoc⟩, fun z => (nomatch z)⟩
    | some r =>
      simp_arith only [optD, frzT, isNonD, f_d, List.length_map]
      exact ⟨fun _ => ⟨m_small' (by omega) (by omega), small64 (by omega), snoc⟩, fun z => (nomatch z)⟩
  · rintro acc ρ2 ⟨rfl, rfl⟩
    have hfull : (greatR t rs).take (rs.map optD).length = greatR t rs := by
      refine List.take_of_length_le ?_
      unfold greatR
      rw [List.length_map, List.length_map]
      exact Nat.le_refl _
    rw [hfull]
    simp_arith [b_tuple]
    exact ok_8F hE hT hY hW hP hO hl ht ht9 fun x7 x9 x10 x11 x12 x13 x14 x15 x16 x17 x18 => hD _ _ _ _ _ _ _ _ _ _ _ _ _ _ _ _
end
end Tr
set_option Elab.async false
set_option linter.all false
set_option maxRecDepth 100000
set_option maxHeartbeats 4000000
set_option exponentiation.threshold 9000
namespace Tr
open PySem PySem.Spec PyProof.Rows L2
section
variable {Γ : Gam} {Φ : Phi} {ns : List Int} {x2 : Option Tv} {pr pk : Int} {ss : List PyData} {D : DE} {rs : List (Option Int)}
theorem at_ownN {A : List Int} {p : Int} (h0 : 0 ≤ p) (h1 : p < (A.length : Int)) : atI ((A.map PyData.int).map Tv.d) p = some (.d (.int (A.getD p.toNat 0))) := by
  obtain ⟨q, rfl⟩ : ∃ q : Nat, p = (q : Int) := ⟨p.toNat, by omega⟩
  have hq : q < A.length := by omega
  exact atI_nat (j := q) (by
    rw [List.getElem?_map, List.getElem?_map, List.getD_eq_getElem?_getD, Int.toNat_natCast, List.getElem?_eq_getElem hq]
    rfl)
theorem zip_atM {pl : List PyData} {rs : List (Option Int)} {k : Nat} {y : PyData} (h : (List.zipWith (fun p q => PyData.tuple [p, q]) (rs.map optD) pl)[k]? = some y) : ∃ t o, pl[k]? = some t ∧ rs[k]? = some o ∧ y = .tuple [optD o, t] := by
  rw [List.getElem?_zipWith, List.getElem?_map] at h
  cases h2 : rs[k]? with
  | none => simp [h2] at h
  | some o =>
    cases h1 : pl[k]? with
    | none => simp [h1, h2] at h
    | some t =>
      rw [h1, h2] at h
      cases h
      exact ⟨t, o, rfl, rfl, rfl⟩
theorem ok_8D (hE : Φ "plan_error" = some fePlanErr) (hT : Φ "table" = some feTable) (hY : Φ "plays" = some fePlays) (hW : Φ "totals" = some feTotals) (hK : Φ "_law_take" = some feTake3) (hP : PlanOk pr pk ss) (hO : OneR ss) {a b c : Int} (hl : rs.length = (playsL ss).length) {lk : List Int} (hlk : lk.length = pk.toNat)
    (hD : ∀ a b c x6 x7 x8 x9 x10 x11 x12 x13 x14 x15 x16 x17 x18, D.nx [some (Tv.scr ns), some (deck a b c), x2, some (Tv.d (planD pr pk ss)), some (.d (.tuple (playsL ss))), some (.d (.tuple (rs.map optD))), x6, x7, x8, x9, x10, x11, x12, x13, x14, x15, x16, x17, x18, none, none, none, none, none, none, none, none]) :
    wSL Γ Φ b8D D [some (Tv.scr ns), some (deck a b c), x2, some (Tv.d (planD pr pk ss)), some (.d (.tuple (playsL ss))), some (.d (.tuple (rs.map optD))), some (.own ((lk.map .int).map .d)), none, none, none, none, none, none, none, none, none, none, none, none, none, none, none, none, none, none, none, none] := by
  have hpl := plays_len hP
  rw [b8D, r_cons]
  simp_arith
  refine ⟨fun k acc ρ => acc = (((farR lk (playsL ss) rs).take k).map optD).map Tv.d ∧ ρ = [some (Tv.scr ns), some (deck a b c), x2, some (Tv.d (planD pr pk ss)), some (.d (.tuple (playsL ss))), some (.d (.tuple (rs.map optD))), some (.own ((lk.map .int).map .d)), none, none, none, none, none, none, none, none, none, none, none, none, none, none, none, none, none, none, none, none], ⟨rfl, rfl⟩, ?_, ?_⟩
  · rintro k y acc ρ2 hy ⟨rfl, rfl⟩
    obtain ⟨t, o, ht, ho, rfl⟩ := zip_atM hy
    obtain ⟨p, n, e, rfl, p0, p1, _⟩ := plays_all hP t (List.mem_of_getElem? ht)
    have hk : k < (playsL ss).length := (List.getElem?_eq_some_iff.mp ht).1
    have hg : (farR lk (playsL ss) rs)[k]? = some (luckF lk (tripD p n e) o) := by
      unfold farR
      rw [List.getElem?_zipWith, ht, ho]
    have hlt : ((farR lk (playsL ss) rs).take k).length ≤ 480 := by
      rw [List.length_take]
      omega
    have snoc : (((farR lk (playsL ss) rs).take k).map optD).map Tv.d ++ [Tv.d (optD (luckF lk (tripD p n e) o))] = (((farR lk (playsL ss) rs).take (k + 1)).map optD).map Tv.d := by
      rw [take_snoc hg, List.map_append, List.map_append]
      rfl
    cases o with
    | none =>
      simp_arith only [optD, tripD, frzT, isNonD, f_d, List.length_map]
      exact ⟨fun _ => ⟨small64 (by omega), snoc⟩, fun z => (nomatch z)⟩
    | some r =>
      simp_arith only [optD, tripD, at0, at_ownN (A := lk) p0 (by omega), frzT, isNonD, f_d, List.length_map]
      exact ⟨fun _ => ⟨small64 (by omega), snoc⟩, fun z => (nomatch z)⟩
  · rintro acc ρ2 ⟨rfl, rfl⟩
    have hfull : (farR lk (playsL ss) rs).take (List.zipWith (fun p q => PyData.tuple [p, q]) (rs.map optD) (playsL ss)).length = farR lk (playsL ss) rs := by
      refine List.take_of_length_le ?_
      unfold farR
      rw [List.length_zipWith, List.length_zipWith, List.length_map]
      omega
    rw [hfull]
    simp_arith [b_tuple]
    exact ok_8E hE hT hY hW hK hP hO hl hD
theorem ok_8C (hE : Φ "plan_error" = some fePlanErr) (hT : Φ "table" = some feTable) (hY : Φ "plays" = some fePlays) (hW : Φ "totals" = some feTotals) (hK : Φ "_law_take" = some feTake3) (hP : PlanOk pr pk ss) (hO : OneR ss) {a b c : Int}
    (hD : ∀ a b c x4 x5 x6 x7 x8 x9 x10 x11 x12 x13 x14 x15 x16 x17 x18, D.nx [some (Tv.scr ns), some (deck a b c), x2, some (Tv.d (planD pr pk ss)), x4, x5, x6, x7, x8, x9, x10, x11, x12, x13, x14, x15, x16, x17, x18, none, none, none, none, none, none, none, none]) :
    wSL Γ Φ b8C D [some (Tv.scr ns), some (deck a b c), x2, some (Tv.d (planD pr pk ss)), some (.d (.tuple (playsL ss))), none, none, none, none, none, none, none, none, none, none, none, none, none, none, none, none, none, none, none, none, none, none] := by
  have hpl := plays_len hP
  have hk1 := hP.k1
  have hk2 := hP.k2
  rw [b8C, r_cons]
  simp_arith
  refine ⟨fun k acc ρ => ∃ a b c, ∃ M : List (Option Int), acc = (M.map optD).map Tv.d ∧ M.length = k ∧ ρ = [some (Tv.scr ns), some (deck a b c), x2, some (Tv.d (planD pr pk ss)), some (.d (.tuple (playsL ss))), none, none, none, none, none, none, none, none, none, none, none, none, none, none, none, none, none, none, none, none, none, none], ⟨a, b, c, [], rfl, rfl, rfl⟩, ?_, ?_⟩
  · rintro k y acc ρ2 hy ⟨a, b, c, M, rfl, hM, rfl⟩
    have hk := (List.getElem?_eq_some_iff.mp hy).1
    simp_arith only [q_callO hK rfl, args1, feTake3]
    refine ⟨fun _ => ⟨_, rfl, a, b, c, _, rfl, by decide, by decide, fun r a b c rest r0 r1 => ?_⟩, fun z => (nomatch z)⟩
    simp_arith only
    refine if_l (fun _ => ?_) fun _ => ?_
    · simp_arith only [List.length_map]
      exact ⟨small64 (by omega), a, b, c, M ++ [none], by simp [optD], by simp [hM], rfl⟩
    · refine ⟨_, rfl, a, b, c, _, rfl, by decide, by decide, fun q a b c rest q0 q1 => ?_⟩
      simp_arith only [List.length_map]
      exact ⟨small64 (by omega), a, b, c, M ++ [some (q - 20)], by simp [optD], by simp [hM], rfl⟩
  rintro acc ρ2 ⟨a, b, c, rs, rfl, hl, rfl⟩
  simp_arith [b_tuple]
  rw [r_cons]
  simp_arith [planD, at1]
  refine ⟨by decide, by decide, by omega, by omega, fun k acc ρ => ∃ a b c, ∃ M : List Int, acc = (M.map PyData.int).map Tv.d ∧ M.length = k ∧ ρ = [some (Tv.scr ns), some (deck a b c), x2, some (Tv.d (planD pr pk ss)), some (.d (.tuple (playsL ss))), some (.d (.tuple (rs.map optD))), none, none, none, none, none, none, none, none, none, none, none, none, none, none, none, none, none, none, none, none, none], ⟨a, b, c, [], rfl, rfl, rfl⟩, ?_, ?_⟩
  · rintro k y acc ρ2 hy ⟨a, b, c, M, rfl, hM, rfl⟩
    have hk := (List.getElem?_eq_some_iff.mp hy).1
    simp only [List.length_map, List.length_range] at hk
    simp_arith only [q_callO hK rfl, args1, feTake3]
    refine ⟨fun _ => ⟨_, rfl, a, b, c, _, rfl, by decide, by decide, fun r a b c rest r0 r1 => ?_⟩, fun z => (nomatch z)⟩
    simp_arith only [List.length_map]
    exact ⟨small64 (by omega), a, b, c, M ++ [r - 100], by simp, by simp [hM], rfl⟩
  rintro acc ρ2 ⟨a, b, c, lk, rfl, hlk, rfl⟩
  simp only [List.length_map, List.length_range] at hlk
  simp_arith
  exact ok_8D hE hT hY hW hK hP hO hl hlk fun a b c x6 x7 x8 x9 x10 x11 x12 x13 x14 x15 x16 x17 x18 => hD _ _ _ _ _ _ _ _ _ _ _ _ _ _ _ _ _ _
end
end Tr
set_option Elab.async false
set_option linter.all false
set_option maxRecDepth 100000
set_option maxHeartbeats 4000000
set_option exponentiation.threshold 9000
namespace Tr
open PySem PySem.Spec PyProof.Rows L2
theorem ok_law08 {Γ : Gam} {Φ : Phi} (hE : Φ "plan_error" = some fePlanErr) (hT : Φ "table" = some feTable) (hY : Φ "plays" = some fePlays) (hW : Φ "totals" = some feTotals) (hK : Φ "_law_take" = some feTake3) (hC : Φ "_law_deck" = some feDeck3) (hN : Φ "_law_plan" = some fePlan1) :
    ∀ xs Q, spLaw xs Q → fsOf Γ Φ 1 27 bLaw08 xs Q := by
  rintro xs Q ⟨ns, rfl, hq⟩
  refine ⟨rfl, ?_⟩
  rw [bLaw08, r_cons]
  simp_arith [q_call hC rfl, argTs, argT, feDeck3]
  refine ⟨ns, rfl, fun a b c rest => ?_⟩
  simp_arith
  rw [r_cons]
  simp_arith
  refine ⟨by decide, by decide, by decide, by decide, fun k ρ => ∃ a b c, ρ = [some (.scr ns), some (deck a b c), none, none, none, none, none, none, none, none, none, none, none, none, none, none, none, none, none, none, none, none, none, none, none, none, none], ⟨a, b, c, rfl⟩, ?_, ?_⟩
  · rintro k x ρ2 hx ⟨a, b, c, rfl⟩
    have hk := (List.getElem?_eq_some_iff.mp hx).1
    simp only [List.length_map, List.length_range] at hk
    simp only [List.getElem?_map, List.getElem?_range hk, Option.map_some, Option.some.injEq] at hx
    subst hx
    simp_arith
    rw [r_cons]
    simp_arith [q_callO hN rfl, args1, fePlan1]
    refine if_l (fun _ => ⟨_, rfl, a, b, c, _, rfl, by decide, by decide, fun pr pk ss a b c rest hP hO => ?_⟩) fun _ => ⟨_, rfl, a, b, c, _, rfl, by decide, by decide, fun pr pk ss a b c rest hP hO => ?_⟩
    all_goals
      simp_arith
      rw [b8A, r_cons]
      simp_arith [q_call hY rfl, args1, fePlays]
      refine ⟨pr, pk, ss, rfl, hP, fun rest => ?_⟩
      simp_arith
      refine ok_8C hE hT hY hW hK hP hO fun a b c x4 x5 x6 x7 x8 x9 x10 x11 x12 x13 x14 x15 x16 x17 x18 => ?_
      simp_arith only
      exact ⟨a, b, c, rfl⟩
  · rintro ρ2 ⟨a, b, c, rfl⟩
    simp_arith only
    exact hq _
end Tr
set_option Elab.async false
set_option linter.all false
set_option maxRecDepth 100000
set_option maxHeartbeats 1000000
namespace Tr
open PySem PySem.Spec PyProof.Rows L2
def gamOf (l : List (Str × Int)) : Gam := fun x => (l.lookup x).map PyData.int
theorem gam_ok {mg : Str → Option Value} : ∀ {l : List (Str × Int)}, (∀ p ∈ l, ∃ t, mg p.1 = some (.int p.2 t)) → ∀ x d, gamOf l x = some d → ∃ u v, mg x = some u ∧ RelV v u ∧ ∀ G, Dq G v d
  | [], _, x, d, e => by cases e
  | (y, n) :: l, h, x, d, e => by
    unfold gamOf at e
    rw [List.lookup_cons] at e
    split at e
    · rename_i q
      cases e
      have q : x = y := by simpa using q
      subst q
      obtain ⟨t, ht⟩ := h (x, n) (by simp)
      exact ⟨_, .int n, ht, ⟨t, rfl⟩, fun G => .int n⟩
    · exact gam_ok (l := l) (fun p hp => h p (by simp [hp])) x d e
theorem all_nil {α : Type} {p : α → Prop} : ∀ x ∈ ([] : List α), p x := fun _ z => nomatch z
theorem all_cons {α : Type} {p : α → Prop} {a : α} {l : List α} (h : p a) (t : ∀ x ∈ l, p x) : ∀ x ∈ a :: l, p x := fun x hx => by
  rcases List.mem_cons.mp hx with rfl | hx
  · exact h
  · exact t x hx
end Tr
set_option Elab.async false
set_option linter.all false
set_option maxRecDepth 100000
set_option maxHeartbeats 4000000
namespace K08
open PySem PySem.Spec PyProof.Rows L2 Tr
def topS (i : Nat) : Stmt := PySem.Challenge.pw_evenpacks_k08_whole_luck_and_names_make.main.body.getD i (.Pass ⟨0, 0, 0, 0⟩)
abbrev s6 : Stmt := topS 6
abbrev s8 : Stmt := topS 8
abbrev s9 : Stmt := topS 9
abbrev s10 : Stmt := topS 10
abbrev s11 : Stmt := topS 11
abbrev s12 : Stmt := topS 12
abbrev s13 : Stmt := topS 13
abbrev s14 : Stmt := topS 14
abbrev s15 : Stmt := topS 15
abbrev s17 : Stmt := topS 17
abbrev s18 : Stmt := topS 18
abbrev s20 : Stmt := topS 20
abbrev s21 : Stmt := topS 21
abbrev s22 : Stmt := topS 22
abbrev s24 : Stmt := topS 24
abbrev s25 : Stmt := topS 25
abbrev s26 : Stmt := topS 26
abbrev s27 : Stmt := topS 27
abbrev s28 : Stmt := topS 28
abbrev s29 : Stmt := topS 29
abbrev s30 : Stmt := topS 30
abbrev s31 : Stmt := topS 31
def n6 : List Str := ["value", "low", "high"]
def n8 : List Str := ["pairs", "packs", "value", "some", "pack", "one", "other"]
def n9 : List Str := ["one", "other"]
def n10 : List Str := ["one", "other", "pack"]
def n11 : List Str := ["sitting", "others", "mates", "other"]
def n12 : List Str := ["pairs", "packs", "sittings", "number", "own"]
def n13 : List Str := ["value", "number", "pairs", "packs", "sittings", "word"]
def n14 : List Str := ["plan", "found", "turn", "north", "east", "packs", "pack"]
def n15 : List Str := ["plan", "pack", "own", "north", "east"]
def n17 : List Str := ["one", "other", "way"]
def n18 : List Str := ["plan", "results", "way", "every", "found", "result", "gain", "pack", "north", "east", "play", "other"]
def n20 : List Str := ["rows", "one", "other", "many"]
def n21 : List Str := ["pairs", "own", "rows", "number", "pair", "north", "east", "norther", "easter"]
def n22 : List Str := ["plan", "whole", "pack", "rows", "pair", "row", "one", "other", "a", "b"]
def n24 : List Str := ["_law_script", "_law_cell", "_law_great", "_law_small"]
def n25 : List Str := ["_law_deck_here", "_law_many", "_law_mixed", "_law_digit"]
def n26 : List Str := ["_law_sitting", "_law_others", "_law_other", "_law_pack"]
def n27 : List Str := ["_law_deck_here", "_law_most", "_law_turn", "_law_pairs", "_law_packs", "_law_found", "_law_north", "_law_east", "_law_some", "_law_sitting", "_law_again"]
def n28 : List Str := ["_law_size", "_law_shift", "_law_turn", "_law_last", "_law_found", "_law_step", "_law_sides"]
def n29 : List Str := ["_law_size", "_law_many", "_law_found", "_law_turn", "_law_north"]
def n30 : List Str := ["_law_deck_here", "_law_most", "_law_sort", "_law_plan_here", "_law_sittings", "_law_size", "_law_own"]
def n31 : List Str := ["_law_script", "_law_deck_here", "_law_turn", "_law_plan_here", "_law_own", "_law_results", "_law_luck", "_law_far", "_law_times", "_law_great", "_law_order", "_law_moved", "_law_other", "_law_known", "_law_again", "_law_spread", "_law_short", "_law_points", "_law_wins", "_law_number", "_law_pack", "_law_turn_here", "_law_north", "_law_east", "_law_packs", "_law_play", "_law_one"]
theorem c6 : FnScope n6 ["value", "low", "high"] (defScope s6) := ⟨rfl, rfl, rfl, by decide +kernel, rfl, by decide +kernel, by decide +kernel⟩
theorem c8 : FnScope n8 ["pairs", "packs", "value"] (defScope s8) := ⟨rfl, rfl, rfl, by decide +kernel, rfl, by decide +kernel, by decide +kernel⟩
theorem c9 : FnScope n9 ["one", "other"] (defScope s9) := ⟨rfl, rfl, rfl, by decide +kernel, rfl, by decide +kernel, by decide +kernel⟩
theorem c10 : FnScope n10 ["one", "other"] (defScope s10) := ⟨rfl, rfl, rfl, by decide +kernel, rfl, by decide +kernel, by decide +kernel⟩
theorem c11 : FnScope n11 ["sitting", "others"] (defScope s11) := ⟨rfl, rfl, rfl, by decide +kernel, rfl, by decide +kernel, by decide +kernel⟩
theorem c12 : FnScope n12 ["pairs", "packs", "sittings", "number"] (defScope s12) := ⟨rfl, rfl, rfl, by decide +kernel, rfl, by decide +kernel, by decide +kernel⟩
theorem c13 : FnScope n13 ["value"] (defScope s13) := ⟨rfl, rfl, rfl, by decide +kernel, rfl, by decide +kernel, by decide +kernel⟩
theorem c14 : FnScope n14 ["plan"] (defScope s14) := ⟨rfl, rfl, rfl, by decide +kernel, rfl, by decide +kernel, by decide +kernel⟩
theorem c15 : FnScope n15 ["plan", "pack"] (defScope s15) := ⟨rfl, rfl, rfl, by decide +kernel, rfl, by decide +kernel, by decide +kernel⟩
theorem c17 : FnScope n17 ["one", "other", "way"] (defScope s17) := ⟨rfl, rfl, rfl, by decide +kernel, rfl, by decide +kernel, by decide +kernel⟩
theorem c18 : FnScope n18 ["plan", "results", "way"] (defScope s18) := ⟨rfl, rfl, rfl, by decide +kernel, rfl, by decide +kernel, by decide +kernel⟩
theorem c20 : FnScope n20 ["rows", "one", "other", "many"] (defScope s20) := ⟨rfl, rfl, rfl, by decide +kernel, rfl, by decide +kernel, by decide +kernel⟩
theorem c21 : FnScope n21 ["pairs", "own"] (defScope s21) := ⟨rfl, rfl, rfl, by decide +kernel, rfl, by decide +kernel, by decide +kernel⟩
theorem c22 : FnScope n22 ["plan"] (defScope s22) := ⟨rfl, rfl, rfl, by decide +kernel, rfl, by decide +kernel, by decide +kernel⟩
theorem c24 : FnScope n24 ["_law_script"] (defScope s24) := ⟨rfl, rfl, rfl, by decide +kernel, rfl, by decide +kernel, by decide +kernel⟩
theorem c25 : FnScope n25 ["_law_deck_here", "_law_many"] (defScope s25) := ⟨rfl, rfl, rfl, by decide +kernel, rfl, by decide +kernel, by decide +kernel⟩
theorem c26 : FnScope n26 ["_law_sitting", "_law_others"] (defScope s26) := ⟨rfl, rfl, rfl, by decide +kernel, rfl, by decide +kernel, by decide +kernel⟩
theorem c27 : FnScope n27 ["_law_deck_here", "_law_most"] (defScope s27) := ⟨rfl, rfl, rfl, by decide +kernel, rfl, by decide +kernel, by decide +kernel⟩
theorem c28 : FnScope n28 ["_law_size", "_law_shift"] (defScope s28) := ⟨rfl, rfl, rfl, by decide +kernel, rfl, by decide +kernel, by decide +kernel⟩
theorem c29 : FnScope n29 ["_law_size", "_law_many"] (defScope s29) := ⟨rfl, rfl, rfl, by decide +kernel, rfl, by decide +kernel, by decide +kernel⟩
theorem c30 : FnScope n30 ["_law_deck_here", "_law_most"] (defScope s30) := ⟨rfl, rfl, rfl, by decide +kernel, rfl, by decide +kernel, by decide +kernel⟩
theorem c31 : FnScope n31 ["_law_script"] (defScope s31) := ⟨rfl, rfl, rfl, by decide +kernel, rfl, by decide +kernel, by decide +kernel⟩
theorem o6 : okSL n6 (defScope s6) none false bIsInt (defBody s6) = true := by decide +kernel
theorem o8 : okSL n8 (defScope s8) none false bIsSit (defBody s8) = true := by decide +kernel
theorem o9 : okSL n9 (defScope s9) none false bShPair (defBody s9) = true := by decide +kernel
theorem o10 : okSL n10 (defScope s10) none false bShPack (defBody s10) = true := by decide +kernel
theorem o11 : okSL n11 (defScope s11) none false bBeside (defBody s11) = true := by decide +kernel
theorem o12 : okSL n12 (defScope s12) none false bItem (defBody s12) = true := by decide +kernel
theorem o13 : okSL n13 (defScope s13) none false bPlanErr (defBody s13) = true := by decide +kernel
theorem o14 : okSL n14 (defScope s14) none false bPlays (defBody s14) = true := by decide +kernel
theorem o15 : okSL n15 (defScope s15) none false bPlaysOf (defBody s15) = true := by decide +kernel
theorem o17 : okSL n17 (defScope s17) none false bGainOf (defBody s17) = true := by decide +kernel
theorem o18 : okSL n18 (defScope s18) none false bTotals (defBody s18) = true := by decide +kernel
theorem o20 : okSL n20 (defScope s20) (some 0) false bAddBoth (defBody s20) = true := by decide +kernel
theorem o21 : okSL n21 (defScope s21) none false bRowsOf (defBody s21) = true := by decide +kernel
theorem o22 : okSL n22 (defScope s22) none false bTable (defBody s22) = true := by decide +kernel
theorem o24 : okSL n24 (defScope s24) none false (bDeck3 0 0) (defBody s24) = true := by decide +kernel
theorem o25 : okSL n25 (defScope s25) (some 0) false bTake3 (defBody s25) = true := by decide +kernel
theorem o26 : okSL n26 (defScope s26) none false bCanSit (defBody s26) = true := by decide +kernel
theorem o27 : okSL n27 (defScope s27) (some 0) false bDrawn3 (defBody s27) = true := by decide +kernel
theorem o28 : okSL n28 (defScope s28) none false bRing3 (defBody s28) = true := by decide +kernel
theorem o29 : okSL n29 (defScope s29) none false bMoving3 (defBody s29) = true := by decide +kernel
theorem o30 : okSL n30 (defScope s30) (some 0) false bPlan3 (defBody s30) = true := by decide +kernel
theorem o31 : okSL n31 (defScope s31) none false bLaw08 (defBody s31) = true := by decide +kernel
end K08
set_option Elab.async false
set_option linter.all false
set_option maxRecDepth 100000
set_option maxHeartbeats 4000000
namespace K08
open PySem PySem.Spec PyProof.Rows L2 Tr
def gam : Gam := gamOf [("MAX_HELD", 4), ("MAX_PACKS", 20), ("MAX_PAIRS", 10), ("MAX_ROUNDS", 15), ("MAX_SITTINGS", 45)]
section
variable {P : Program} {w : World} {K : PySem.W.Frag} {mg : Str → Option Value} {base : Heap}
theorem law_has {f6 f8 f9 f10 f11 f12 f13 f14 f15 f17 f18 f20 f21 f22 f24 f25 f26 f27 f28 f29 f30 f31 : Addr} {d6 d8 d9 d10 d11 d12 d13 d14 d15 d17 d18 d20 d21 d22 d24 d25 d26 d27 d28 d29 d30 d31 : FuncData} (bl : ∀ x ∈ bnames, mg x = none)
    (F6 : Fun K "is_integer" "is_integer" s6 f6 d6) (m6 : mg "is_integer" = some (.ref f6))
    (F8 : Fun K "is_sitting" "is_sitting" s8 f8 d8) (m8 : mg "is_sitting" = some (.ref f8))
    (F9 : Fun K "shares_pair" "shares_pair" s9 f9 d9) (m9 : mg "shares_pair" = some (.ref f9))
    (F10 : Fun K "shares_pack" "shares_pack" s10 f10 d10) (m10 : mg "shares_pack" = some (.ref f10))
    (F11 : Fun K "beside_word" "beside_word" s11 f11 d11) (m11 : mg "beside_word" = some (.ref f11))
    (F12 : Fun K "item_word" "item_word" s12 f12 d12) (m12 : mg "item_word" = some (.ref f12))
    (F13 : Fun K "plan_error" "plan_error" s13 f13 d13) (m13 : mg "plan_error" = some (.ref f13))
    (F14 : Fun K "plays" "plays" s14 f14 d14) (m14 : mg "plays" = some (.ref f14))
    (F15 : Fun K "plays_of" "plays_of" s15 f15 d15) (m15 : mg "plays_of" = some (.ref f15))
    (F17 : Fun K "gain_of" "gain_of" s17 f17 d17) (m17 : mg "gain_of" = some (.ref f17))
    (F18 : Fun K "totals" "totals" s18 f18 d18) (m18 : mg "totals" = some (.ref f18))
    (F20 : Fun K "add_both" "add_both" s20 f20 d20) (m20 : mg "add_both" = some (.ref f20))
    (F21 : Fun K "rows_of" "rows_of" s21 f21 d21) (m21 : mg "rows_of" = some (.ref f21))
    (F22 : Fun K "table" "table" s22 f22 d22) (m22 : mg "table" = some (.ref f22))
    (F24 : Fun K "_law_deck" "_law_deck" s24 f24 d24) (m24 : mg "_law_deck" = some (.ref f24))
    (F25 : Fun K "_law_take" "_law_take" s25 f25 d25) (m25 : mg "_law_take" = some (.ref f25))
    (F26 : Fun K "_law_can_sit" "_law_can_sit" s26 f26 d26) (m26 : mg "_law_can_sit" = some (.ref f26))
    (F27 : Fun K "_law_drawn_plan" "_law_drawn_plan" s27 f27 d27) (m27 : mg "_law_drawn_plan" = some (.ref f27))
    (F28 : Fun K "_law_ring" "_law_ring" s28 f28 d28) (m28 : mg "_law_ring" = some (.ref f28))
    (F29 : Fun K "_law_moving" "_law_moving" s29 f29 d29) (m29 : mg "_law_moving" = some (.ref f29))
    (F30 : Fun K "_law_plan" "_law_plan" s30 f30 d30) (m30 : mg "_law_plan" = some (.ref f30))
    (F31 : Fun K "law" "law" s31 f31 d31) {tk0 tk1 tk2 tk3 tk4 : Tok} (w0 : mg "MAX_HELD" = some (.int 4 tk0)) (w1 : mg "MAX_PACKS" = some (.int 20 tk1)) (w2 : mg "MAX_PAIRS" = some (.int 10 tk2)) (w3 : mg "MAX_ROUNDS" = some (.int 15 tk3)) (w4 : mg "MAX_SITTINGS" = some (.int 45 tk4)) : GnOk P w K mg base 5 f31 d31 ["_law_script"] (liftF K none spLaw) := by
  have gl : ∀ x d, gam x = some d → ∃ u v, mg x = some u ∧ RelV v u ∧ ∀ G, Dq G v d := gam_ok (all_cons ⟨_, w0⟩ (all_cons ⟨_, w1⟩ (all_cons ⟨_, w2⟩ (all_cons ⟨_, w3⟩ (all_cons ⟨_, w4⟩ (all_nil))))))
  have M6 : GdM gam (phiOf []) 0 P w K mg base := HasAll.gdm (l := []) trivial bl gl
  have H6 : Has P w K mg base 1 "is_integer" feIsI := has_def M6 F6 c6 o6 (fun z => (nomatch z)) (fun _ z => (nomatch z)) ok_isI m6 (F6.binds fun _ _ _ _ _ _ us hl => match us, hl with | [_, _, _], _ => rfl) (fun _ z => nomatch z)
  have M9 : GdM gam (phiOf []) 0 P w K mg base := HasAll.gdm (l := []) trivial bl gl
  have H9 : Has P w K mg base 1 "shares_pair" feShPair := has_def M9 F9 c9 o9 (fun z => (nomatch z)) (fun _ z => (nomatch z)) ok_shPair m9 (F9.binds fun _ _ _ _ _ _ us hl => match us, hl with | [_, _], _ => rfl) (fun _ z => nomatch z)
  have M10 : GdM gam (phiOf []) 0 P w K mg base := HasAll.gdm (l := []) trivial bl gl
  have H10 : Has P w K mg base 1 "shares_pack" feShPack := has_def M10 F10 c10 o10 (fun z => (nomatch z)) (fun _ z => (nomatch z)) ok_shPack m10 (F10.binds fun _ _ _ _ _ _ us hl => match us, hl with | [_, _], _ => rfl) (fun _ z => nomatch z)
  have M14 : GdM gam (phiOf []) 0 P w K mg base := HasAll.gdm (l := []) trivial bl gl
  have H14 : Has P w K mg base 1 "plays" fePlays := has_def M14 F14 c14 o14 (fun z => (nomatch z)) (fun _ z => (nomatch z)) ok_plays m14 (F14.binds fun _ _ _ _ _ _ us hl => match us, hl with | [_], _ => rfl) (fun ks hk => by
      have e : ks = (["plan"] : List Str) := by simpa using hk
      subst e
      exact fun_bk F14 fun _ _ _ _ _ _ ws as hl hk => match ws, hl with | [_], _ => by cases hk; rfl)
  have M17 : GdM gam (phiOf []) 0 P w K mg base := HasAll.gdm (l := []) trivial bl gl
  have H17 : Has P w K mg base 1 "gain_of" feGainOf := has_def M17 F17 c17 o17 (fun z => (nomatch z)) (fun _ z => (nomatch z)) ok_gainOf m17 (F17.binds fun _ _ _ _ _ _ us hl => match us, hl with | [_, _, _], _ => rfl) (fun _ z => nomatch z)
  have M20 : GdM gam (phiOf []) 0 P w K mg base := HasAll.gdm (l := []) trivial bl gl
  have H20 : Has P w K mg base 1 "add_both" feAddBoth := has_def M20 F20 c20 o20 (fun z => (nomatch z)) (fun i z => by cases z; decide) ok_addBoth m20 (F20.binds fun _ _ _ _ _ _ us hl => match us, hl with | [_, _, _, _], _ => rfl) (fun _ z => nomatch z)
  have M24 : GdM gam (phiOf []) 0 P w K mg base := HasAll.gdm (l := []) trivial bl gl
  have H24 : Has P w K mg base 1 "_law_deck" feDeck3 := has_def M24 F24 c24 o24 (fun z => (nomatch z)) (fun _ z => (nomatch z)) ok_deck3 m24 (F24.binds fun _ _ _ _ _ _ us hl => match us, hl with | [_], _ => rfl) (fun _ z => nomatch z)
  have M25 : GdM gam (phiOf []) 0 P w K mg base := HasAll.gdm (l := []) trivial bl gl
  have H25 : Has P w K mg base 1 "_law_take" feTake3 := has_def M25 F25 c25 o25 (fun z => (nomatch z)) (fun i z => by cases z; decide) ok_take3 m25 (F25.binds fun _ _ _ _ _ _ us hl => match us, hl with | [_, _], _ => rfl) (fun _ z => nomatch z)
  have M26 : GdM gam (phiOf []) 0 P w K mg base := HasAll.gdm (l := []) trivial bl gl
  have H26 : Has P w K mg base 1 "_law_can_sit" feCanSit1 := has_def M26 F26 c26 o26 (fun z => (nomatch z)) (fun _ z => (nomatch z)) ok_canSit1 m26 (F26.binds fun _ _ _ _ _ _ us hl => match us, hl with | [_, _], _ => rfl) (fun _ z => nomatch z)
  have M28 : GdM gam (phiOf []) 0 P w K mg base := HasAll.gdm (l := []) trivial bl gl
  have H28 : Has P w K mg base 1 "_law_ring" feRing1 := has_def M28 F28 c28 o28 (fun z => (nomatch z)) (fun _ z => (nomatch z)) ok_ring1 m28 (F28.binds fun _ _ _ _ _ _ us hl => match us, hl with | [_, _], _ => rfl) (fun _ z => nomatch z)
  have M29 : GdM gam (phiOf []) 0 P w K mg base := HasAll.gdm (l := []) trivial bl gl
  have H29 : Has P w K mg base 1 "_law_moving" feMoving3 := has_def M29 F29 c29 o29 (fun z => (nomatch z)) (fun _ z => (nomatch z)) ok_moving3 m29 (F29.binds fun _ _ _ _ _ _ us hl => match us, hl with | [_, _], _ => rfl) (fun _ z => nomatch z)
  have M8 : GdM gam (phiOf [("is_integer", feIsI)]) 1 P w K mg base := HasAll.gdm ⟨H6, trivial⟩ bl gl
  have H8 : Has P w K mg base 2 "is_sitting" feIsS := has_def M8 F8 c8 o8 (fun z => (nomatch z)) (fun _ z => (nomatch z)) (ok_isS rfl rfl rfl) m8 (F8.binds fun _ _ _ _ _ _ us hl => match us, hl with | [_, _, _], _ => rfl) (fun _ z => nomatch z)
  have M11 : GdM gam (phiOf [("shares_pair", feShPair), ("shares_pack", feShPack)]) 1 P w K mg base := HasAll.gdm ⟨H9, H10, trivial⟩ bl gl
  have H11 : Has P w K mg base 2 "beside_word" feBeside := has_def M11 F11 c11 o11 (fun z => (nomatch z)) (fun _ z => (nomatch z)) (ok_beside rfl rfl) m11 (F11.binds fun _ _ _ _ _ _ us hl => match us, hl with | [_, _], _ => rfl) (fun _ z => nomatch z)
  have M15 : GdM gam (phiOf [("plays", fePlays)]) 1 P w K mg base := HasAll.gdm ⟨H14, trivial⟩ bl gl
  have H15 : Has P w K mg base 2 "plays_of" fePlaysOf := has_def M15 F15 c15 o15 (fun z => (nomatch z)) (fun _ z => (nomatch z)) (ok_playsOf rfl) m15 (F15.binds fun _ _ _ _ _ _ us hl => match us, hl with | [_, _], _ => rfl) (fun _ z => nomatch z)
  have M18 : GdM gam (phiOf [("plays", fePlays), ("gain_of", feGainOf)]) 1 P w K mg base := HasAll.gdm ⟨H14, H17, trivial⟩ bl gl
  have H18 : Has P w K mg base 2 "totals" feTotals := has_def M18 F18 c18 o18 (fun z => (nomatch z)) (fun _ z => (nomatch z)) (ok_totals rfl rfl) m18 (F18.binds fun _ _ _ _ _ _ us hl => match us, hl with | [_, _, _], _ => rfl) (fun ks hk => by
      have e : ks = (["way", "results", "plan"] : List Str) := by simpa using hk
      subst e
      exact fun_bk F18 fun _ _ _ _ _ _ ws as hl hk => match ws, hl with | [_, _, _], _ => by cases hk; rfl)
  have M21 : GdM gam (phiOf [("add_both", feAddBoth)]) 1 P w K mg base := HasAll.gdm ⟨H20, trivial⟩ bl gl
  have H21 : Has P w K mg base 2 "rows_of" feRowsOf := has_def M21 F21 c21 o21 (fun z => (nomatch z)) (fun _ z => (nomatch z)) (ok_rowsOf rfl) m21 (F21.binds fun _ _ _ _ _ _ us hl => match us, hl with | [_, _], _ => rfl) (fun _ z => nomatch z)
  have M27 : GdM gam (phiOf [("_law_take", feTake3), ("_law_can_sit", feCanSit1)]) 1 P w K mg base := HasAll.gdm ⟨H25, H26, trivial⟩ bl gl
  have H27 : Has P w K mg base 2 "_law_drawn_plan" feDrawn1 := has_def M27 F27 c27 o27 (fun z => (nomatch z)) (fun i z => by cases z; decide) (ok_drawn1 rfl rfl) m27 (F27.binds fun _ _ _ _ _ _ us hl => match us, hl with | [_, _], _ => rfl) (fun _ z => nomatch z)
  have M12 : GdM gam (phiOf [("is_sitting", feIsS), ("beside_word", feBeside)]) 2 P w K mg base := HasAll.gdm ⟨H8, H11, trivial⟩ bl gl
  have H12 : Has P w K mg base 3 "item_word" feItem := has_def M12 F12 c12 o12 (fun z => (nomatch z)) (fun _ z => (nomatch z)) (ok_item rfl rfl) m12 (F12.binds fun _ _ _ _ _ _ us hl => match us, hl with | [_, _, _, _], _ => rfl) (fun _ z => nomatch z)
  have M22 : GdM gam (phiOf [("rows_of", feRowsOf), ("plays_of", fePlaysOf)]) 2 P w K mg base := HasAll.gdm ⟨H21, H15, trivial⟩ bl gl
  have H22 : Has P w K mg base 3 "table" feTable := has_def M22 F22 c22 o22 (fun z => (nomatch z)) (fun _ z => (nomatch z)) (ok_table rfl rfl) m22 (F22.binds fun _ _ _ _ _ _ us hl => match us, hl with | [_], _ => rfl) (fun ks hk => by
      have e : ks = (["plan"] : List Str) := by simpa using hk
      subst e
      exact fun_bk F22 fun _ _ _ _ _ _ ws as hl hk => match ws, hl with | [_], _ => by cases hk; rfl)
  have M30 : GdM gam (phiOf [("_law_take", feTake3), ("_law_drawn_plan", feDrawn1), ("_law_ring", feRing1), ("_law_moving", feMoving3)]) 2 P w K mg base := HasAll.gdm ⟨H25.mono (by decide), H27, H28.mono (by decide), H29.mono (by decide), trivial⟩ bl gl
  have H30 : Has P w K mg base 3 "_law_plan" fePlan1 := has_def M30 F30 c30 o30 (fun z => (nomatch z)) (fun i z => by cases z; decide) (ok_plan1 rfl rfl rfl rfl) m30 (F30.binds fun _ _ _ _ _ _ us hl => match us, hl with | [_, _], _ => rfl) (fun _ z => nomatch z)
  have M13 : GdM gam (phiOf [("is_integer", feIsI), ("item_word", feItem)]) 3 P w K mg base := HasAll.gdm ⟨H6.mono (by decide), H12, trivial⟩ bl gl
  have H13 : Has P w K mg base 4 "plan_error" fePlanErr := has_def M13 F13 c13 o13 (fun z => (nomatch z)) (fun _ z => (nomatch z)) (ok_planErr rfl rfl rfl rfl rfl) m13 (F13.binds fun _ _ _ _ _ _ us hl => match us, hl with | [_], _ => rfl) (fun ks hk => by
      have e : ks = (["value"] : List Str) := by simpa using hk
      subst e
      exact fun_bk F13 fun _ _ _ _ _ _ ws as hl hk => match ws, hl with | [_], _ => by cases hk; rfl)
  have ML : GdM gam (phiOf [("plan_error", fePlanErr), ("table", feTable), ("plays", fePlays), ("totals", feTotals), ("_law_take", feTake3), ("_law_deck", feDeck3), ("_law_plan", fePlan1)]) 4 P w K mg base := HasAll.gdm ⟨H13, H22.mono (by decide), H14.mono (by decide), H18.mono (by decide), H25.mono (by decide), H24.mono (by decide), H30.mono (by decide), trivial⟩ bl gl
  exact fn_ok ML F31 c31 o31 (fun z => (nomatch z)) (fun _ z => nomatch z) (ok_law08 rfl rfl rfl rfl rfl rfl rfl)
end
theorem all_mk {l : PySem.W.OpenLaw} {w : World} {K : PySem.W.Frag} {h : Heap} {mg : Str → Option Value} {fa f6 f8 f9 f10 f11 f12 f13 f14 f15 f17 f18 f20 f21 f22 f24 f25 f26 f27 f28 f29 f30 f31 : Addr} (X : K.In h) (G : h.Ns mainGlobals mg) (hfa : mg "law" = some (.ref fa))
    {e6 g6 e8 g8 e9 g9 e10 g10 e11 g11 e12 g12 e13 g13 e14 g14 e15 g15 e17 g17 e18 g18 e20 g20 e21 g21 e22 g22 e24 g24 e25 g25 e26 g26 e27 g27 e28 g28 e29 g29 e30 g30 e31 g31 : Option Addr} {t6 t8 t9 t10 t11 t12 t13 t14 t15 t17 t18 t20 t21 t22 t24 t25 t26 t27 t28 t29 t30 t31 : Array (Option Value)} {p6 q6 u6 v6 y6 z6 p8 q8 u8 v8 y8 z8 p9 q9 u9 v9 y9 z9 p10 q10 u10 v10 y10 z10 p11 q11 u11 v11 y11 z11 p12 q12 u12 v12 y12 z12 p13 q13 u13 v13 y13 z13 p14 q14 u14 v14 y14 z14 p15 q15 u15 v15 y15 z15 p17 q17 u17 v17 y17 z17 p18 q18 u18 v18 y18 z18 p20 q20 u20 v20 y20 z20 p21 q21 u21 v21 y21 z21 p22 q22 u22 v22 y22 z22 p24 q24 u24 v24 y24 z24 p25 q25 u25 v25 y25 z25 p26 q26 u26 v26 y26 z26 p27 q27 u27 v27 y27 z27 p28 q28 u28 v28 y28 z28 p29 q29 u29 v29 y29 z29 p30 q30 u30 v30 y30 z30 p31 q31 u31 v31 y31 z31 : Value}
    (a6 : PySem.W.nsIn K mainGlobals "is_integer" = some (some (.ref f6))) (l6 : K.lookup f6 = some ⟨p6, e6, .func (PySem.W.fnOf "is_integer" "is_integer" (defArgs s6) (defBody s6) (defScope s6) .none q6 u6 v6 g6 y6 z6), t6⟩) (b6 : PySem.W.codeIn K y6 "is_integer" = true) (k6 : PySem.W.keepIn K (.ref f6) = true)
    (a8 : PySem.W.nsIn K mainGlobals "is_sitting" = some (some (.ref f8))) (l8 : K.lookup f8 = some ⟨p8, e8, .func (PySem.W.fnOf "is_sitting" "is_sitting" (defArgs s8) (defBody s8) (defScope s8) .none q8 u8 v8 g8 y8 z8), t8⟩) (b8 : PySem.W.codeIn K y8 "is_sitting" = true) (k8 : PySem.W.keepIn K (.ref f8) = true)
    (a9 : PySem.W.nsIn K mainGlobals "shares_pair" = some (some (.ref f9))) (l9 : K.lookup f9 = some ⟨p9, e9, .func (PySem.W.fnOf "shares_pair" "shares_pair" (defArgs s9) (defBody s9) (defScope s9) .none q9 u9 v9 g9 y9 z9), t9⟩) (b9 : PySem.W.codeIn K y9 "shares_pair" = true) (k9 : PySem.W.keepIn K (.ref f9) = true)
    (a10 : PySem.W.nsIn K mainGlobals "shares_pack" = some (some (.ref f10))) (l10 : K.lookup f10 = some ⟨p10, e10, .func (PySem.W.fnOf "shares_pack" "shares_pack" (defArgs s10) (defBody s10) (defScope s10) .none q10 u10 v10 g10 y10 z10), t10⟩) (b10 : PySem.W.codeIn K y10 "shares_pack" = true) (k10 : PySem.W.keepIn K (.ref f10) = true)
    (a11 : PySem.W.nsIn K mainGlobals "beside_word" = some (some (.ref f11))) (l11 : K.lookup f11 = some ⟨p11, e11, .func (PySem.W.fnOf "beside_word" "beside_word" (defArgs s11) (defBody s11) (defScope s11) .none q11 u11 v11 g11 y11 z11), t11⟩) (b11 : PySem.W.codeIn K y11 "beside_word" = true) (k11 : PySem.W.keepIn K (.ref f11) = true)
    (a12 : PySem.W.nsIn K mainGlobals "item_word" = some (some (.ref f12))) (l12 : K.lookup f12 = some ⟨p12, e12, .func (PySem.W.fnOf "item_word" "item_word" (defArgs s12) (defBody s12) (defScope s12) .none q12 u12 v12 g12 y12 z12), t12⟩) (b12 : PySem.W.codeIn K y12 "item_word" = true) (k12 : PySem.W.keepIn K (.ref f12) = true)
    (a13 : PySem.W.nsIn K mainGlobals "plan_error" = some (some (.ref f13))) (l13 : K.lookup f13 = some ⟨p13, e13, .func (PySem.W.fnOf "plan_error" "plan_error" (defArgs s13) (defBody s13) (defScope s13) .none q13 u13 v13 g13 y13 z13), t13⟩) (b13 : PySem.W.codeIn K y13 "plan_error" = true) (k13 : PySem.W.keepIn K (.ref f13) = true)
    (a14 : PySem.W.nsIn K mainGlobals "plays" = some (some (.ref f14))) (l14 : K.lookup f14 = some ⟨p14, e14, .func (PySem.W.fnOf "plays" "plays" (defArgs s14) (defBody s14) (defScope s14) .none q14 u14 v14 g14 y14 z14), t14⟩) (b14 : PySem.W.codeIn K y14 "plays" = true) (k14 : PySem.W.keepIn K (.ref f14) = true)
    (a15 : PySem.W.nsIn K mainGlobals "plays_of" = some (some (.ref f15))) (l15 : K.lookup f15 = some ⟨p15, e15, .func (PySem.W.fnOf "plays_of" "plays_of" (defArgs s15) (defBody s15) (defScope s15) .none q15 u15 v15 g15 y15 z15), t15⟩) (b15 : PySem.W.codeIn K y15 "plays_of" = true) (k15 : PySem.W.keepIn K (.ref f15) = true)
    (a17 : PySem.W.nsIn K mainGlobals "gain_of" = some (some (.ref f17))) (l17 : K.lookup f17 = some ⟨p17, e17, .func (PySem.W.fnOf "gain_of" "gain_of" (defArgs s17) (defBody s17) (defScope s17) .none q17 u17 v17 g17 y17 z17), t17⟩) (b17 : PySem.W.codeIn K y17 "gain_of" = true) (k17 : PySem.W.keepIn K (.ref f17) = true)
    (a18 : PySem.W.nsIn K mainGlobals "totals" = some (some (.ref f18))) (l18 : K.lookup f18 = some ⟨p18, e18, .func (PySem.W.fnOf "totals" "totals" (defArgs s18) (defBody s18) (defScope s18) .none q18 u18 v18 g18 y18 z18), t18⟩) (b18 : PySem.W.codeIn K y18 "totals" = true) (k18 : PySem.W.keepIn K (.ref f18) = true)
    (a20 : PySem.W.nsIn K mainGlobals "add_both" = some (some (.ref f20))) (l20 : K.lookup f20 = some ⟨p20, e20, .func (PySem.W.fnOf "add_both" "add_both" (defArgs s20) (defBody s20) (defScope s20) .none q20 u20 v20 g20 y20 z20), t20⟩) (b20 : PySem.W.codeIn K y20 "add_both" = true) (k20 : PySem.W.keepIn K (.ref f20) = true)
    (a21 : PySem.W.nsIn K mainGlobals "rows_of" = some (some (.ref f21))) (l21 : K.lookup f21 = some ⟨p21, e21, .func (PySem.W.fnOf "rows_of" "rows_of" (defArgs s21) (defBody s21) (defScope s21) .none q21 u21 v21 g21 y21 z21), t21⟩) (b21 : PySem.W.codeIn K y21 "rows_of" = true) (k21 : PySem.W.keepIn K (.ref f21) = true)
    (a22 : PySem.W.nsIn K mainGlobals "table" = some (some (.ref f22))) (l22 : K.lookup f22 = some ⟨p22, e22, .func (PySem.W.fnOf "table" "table" (defArgs s22) (defBody s22) (defScope s22) .none q22 u22 v22 g22 y22 z22), t22⟩) (b22 : PySem.W.codeIn K y22 "table" = true) (k22 : PySem.W.keepIn K (.ref f22) = true)
    (a24 : PySem.W.nsIn K mainGlobals "_law_deck" = some (some (.ref f24))) (l24 : K.lookup f24 = some ⟨p24, e24, .func (PySem.W.fnOf "_law_deck" "_law_deck" (defArgs s24) (defBody s24) (defScope s24) .none q24 u24 v24 g24 y24 z24), t24⟩) (b24 : PySem.W.codeIn K y24 "_law_deck" = true) (k24 : PySem.W.keepIn K (.ref f24) = true)
    (a25 : PySem.W.nsIn K mainGlobals "_law_take" = some (some (.ref f25))) (l25 : K.lookup f25 = some ⟨p25, e25, .func (PySem.W.fnOf "_law_take" "_law_take" (defArgs s25) (defBody s25) (defScope s25) .none q25 u25 v25 g25 y25 z25), t25⟩) (b25 : PySem.W.codeIn K y25 "_law_take" = true) (k25 : PySem.W.keepIn K (.ref f25) = true)
    (a26 : PySem.W.nsIn K mainGlobals "_law_can_sit" = some (some (.ref f26))) (l26 : K.lookup f26 = some ⟨p26, e26, .func (PySem.W.fnOf "_law_can_sit" "_law_can_sit" (defArgs s26) (defBody s26) (defScope s26) .none q26 u26 v26 g26 y26 z26), t26⟩) (b26 : PySem.W.codeIn K y26 "_law_can_sit" = true) (k26 : PySem.W.keepIn K (.ref f26) = true)
    (a27 : PySem.W.nsIn K mainGlobals "_law_drawn_plan" = some (some (.ref f27))) (l27 : K.lookup f27 = some ⟨p27, e27, .func (PySem.W.fnOf "_law_drawn_plan" "_law_drawn_plan" (defArgs s27) (defBody s27) (defScope s27) .none q27 u27 v27 g27 y27 z27), t27⟩) (b27 : PySem.W.codeIn K y27 "_law_drawn_plan" = true) (k27 : PySem.W.keepIn K (.ref f27) = true)
    (a28 : PySem.W.nsIn K mainGlobals "_law_ring" = some (some (.ref f28))) (l28 : K.lookup f28 = some ⟨p28, e28, .func (PySem.W.fnOf "_law_ring" "_law_ring" (defArgs s28) (defBody s28) (defScope s28) .none q28 u28 v28 g28 y28 z28), t28⟩) (b28 : PySem.W.codeIn K y28 "_law_ring" = true) (k28 : PySem.W.keepIn K (.ref f28) = true)
    (a29 : PySem.W.nsIn K mainGlobals "_law_moving" = some (some (.ref f29))) (l29 : K.lookup f29 = some ⟨p29, e29, .func (PySem.W.fnOf "_law_moving" "_law_moving" (defArgs s29) (defBody s29) (defScope s29) .none q29 u29 v29 g29 y29 z29), t29⟩) (b29 : PySem.W.codeIn K y29 "_law_moving" = true) (k29 : PySem.W.keepIn K (.ref f29) = true)
    (a30 : PySem.W.nsIn K mainGlobals "_law_plan" = some (some (.ref f30))) (l30 : K.lookup f30 = some ⟨p30, e30, .func (PySem.W.fnOf "_law_plan" "_law_plan" (defArgs s30) (defBody s30) (defScope s30) .none q30 u30 v30 g30 y30 z30), t30⟩) (b30 : PySem.W.codeIn K y30 "_law_plan" = true) (k30 : PySem.W.keepIn K (.ref f30) = true)
    (a31 : PySem.W.nsIn K mainGlobals "law" = some (some (.ref f31))) (l31 : K.lookup f31 = some ⟨p31, e31, .func (PySem.W.fnOf "law" "law" (defArgs s31) (defBody s31) (defScope s31) .none q31 u31 v31 g31 y31 z31), t31⟩) (b31 : PySem.W.codeIn K y31 "law" = true) (k31 : PySem.W.keepIn K (.ref f31) = true)
    {tk0 tk1 tk2 tk3 tk4 : Tok} (w0 : PySem.W.nsIn K mainGlobals "MAX_HELD" = some (some (.int 4 tk0))) (w1 : PySem.W.nsIn K mainGlobals "MAX_PACKS" = some (some (.int 20 tk1))) (w2 : PySem.W.nsIn K mainGlobals "MAX_PAIRS" = some (some (.int 10 tk2))) (w3 : PySem.W.nsIn K mainGlobals "MAX_ROUNDS" = some (some (.int 15 tk3))) (w4 : PySem.W.nsIn K mainGlobals "MAX_SITTINGS" = some (some (.int 45 tk4)))
    (x1 : PySem.W.nsIn K mainGlobals "abs" = some none)
    (x2 : PySem.W.nsIn K mainGlobals "int" = some none)
    (x3 : PySem.W.nsIn K mainGlobals "str" = some none)
    (x4 : PySem.W.nsIn K mainGlobals "repr" = some none)
    (x5 : PySem.W.nsIn K mainGlobals "tuple" = some none)
    (x6 : PySem.W.nsIn K mainGlobals "list" = some none)
    (x7 : PySem.W.nsIn K mainGlobals "sorted" = some none)
    (x8 : PySem.W.nsIn K mainGlobals "sum" = some none)
    (x9 : PySem.W.nsIn K mainGlobals "any" = some none)
    (x10 : PySem.W.nsIn K mainGlobals "all" = some none)
    (x11 : PySem.W.nsIn K mainGlobals "max" = some none)
    (x12 : PySem.W.nsIn K mainGlobals "min" = some none)
    (x13 : PySem.W.nsIn K mainGlobals "len" = some none)
    (x14 : PySem.W.nsIn K mainGlobals "range" = some none)
    (x15 : PySem.W.nsIn K mainGlobals "zip" = some none)
    (x16 : PySem.W.nsIn K mainGlobals "enumerate" = some none)
    (x17 : PySem.W.nsIn K mainGlobals "set" = some none)
    (x18 : PySem.W.nsIn K mainGlobals "isinstance" = some none)
    (x19 : PySem.W.nsIn K mainGlobals "bool" = some none)
    (x20 : PySem.W.nsIn K mainGlobals "dict" = some none) :
    ∃ fd : FuncData, (∀ (s : Shared) (v : Value), BindsTo s fd ⟨[v], []⟩ [("_law_script", v)]) ∧ ∀ base : Heap, K.In base → base.Ns mainGlobals mg → TabsW K mg base → GnOk l.prog w K mg base 5 fa fd ["_law_script"] (liftF K none spLaw) := by
  have e := hfa.symm.trans (PySem.W.mg_of X G a31)
  cases e
  refine ⟨PySem.W.fnOf "law" "law" (defArgs s31) (defBody s31) (defScope s31) .none q31 u31 v31 g31 y31 z31, fun s v => .of_eq rfl, fun base _ _ W => ?_⟩
  have zz : (bnames.all fun x => isNone2 (PySem.W.nsIn K mainGlobals x)) = true := by
    simp only [bnames, List.all_cons, List.all_nil, x1, x2, x3, x4, x5, x6, x7, x8, x9, x10, x11, x12, x13, x14, x15, x16, x17, x18, x19, x20]
    rfl
  exact law_has (blt_of X G zz) (fun_mk (st := s6) l6 b6 k6) (PySem.W.mg_of X G a6) (fun_mk (st := s8) l8 b8 k8) (PySem.W.mg_of X G a8) (fun_mk (st := s9) l9 b9 k9) (PySem.W.mg_of X G a9) (fun_mk (st := s10) l10 b10 k10) (PySem.W.mg_of X G a10) (fun_mk (st := s11) l11 b11 k11) (PySem.W.mg_of X G a11) (fun_mk (st := s12) l12 b12 k12) (PySem.W.mg_of X G a12) (fun_mk (st := s13) l13 b13 k13) (PySem.W.mg_of X G a13) (fun_mk (st := s14) l14 b14 k14) (PySem.W.mg_of X G a14) (fun_mk (st := s15) l15 b15 k15) (PySem.W.mg_of X G a15) (fun_mk (st := s17) l17 b17 k17) (PySem.W.mg_of X G a17) (fun_mk (st := s18) l18 b18 k18) (PySem.W.mg_of X G a18) (fun_mk (st := s20) l20 b20 k20) (PySem.W.mg_of X G a20) (fun_mk (st := s21) l21 b21 k21) (PySem.W.mg_of X G a21) (fun_mk (st := s22) l22 b22 k22) (PySem.W.mg_of X G a22) (fun_mk (st := s24) l24 b24 k24) (PySem.W.mg_of X G a24) (fun_mk (st := s25) l25 b25 k25) (PySem.W.mg_of X G a25) (fun_mk (st := s26) l26 b26 k26) (PySem.W.mg_of X G a26) (fun_mk (st := s27) l27 b27 k27) (PySem.W.mg_of X G a27) (fun_mk (st := s28) l28 b28 k28) (PySem.W.mg_of X G a28) (fun_mk (st := s29) l29 b29 k29) (PySem.W.mg_of X G a29) (fun_mk (st := s30) l30 b30 k30) (PySem.W.mg_of X G a30) (fun_mk (st := s31) l31 b31 k31) (PySem.W.mg_of X G w0) (PySem.W.mg_of X G w1) (PySem.W.mg_of X G w2) (PySem.W.mg_of X G w3) (PySem.W.mg_of X G w4)
end K08
open PySem PySem.W PyProof.Rows
set_option maxHeartbeats 0 in
theorem PySem.Challenge.cw_evenpacks_k08_whole_luck_and_names_make_holds : PySem.Challenge.rw_evenpacks_k08_whole_luck_and_names_make.Holds := by
  w_on; o_law; k_head; (case hw => w_witness2)
  k_fill
  refine Tr.walk_gn (l := PySem.Challenge.rw_evenpacks_k08_whole_luck_and_names_make) (n := 63) (k := 5) (x := "_law_script") (sp := Tr.spLaw) rfl (by decide) rfl ⟨rfl, by decide, by decide⟩ (fun w h Y => (by first | exact PySem.W.kIn_of Y | exact PySem.W.km_in_of Y)) ?T ?F (fun ns _ _ => ⟨ns, rfl, fun _ => rfl⟩)
  case T => intro w; kernel_rfl
  case F =>
    intro w mg fa h KX G hmg
    refine' K08.all_mk KX G hmg ?a6 ?l6 ?b6 ?k6 ?a8 ?l8 ?b8 ?k8 ?a9 ?l9 ?b9 ?k9 ?a10 ?l10 ?b10 ?k10 ?a11 ?l11 ?b11 ?k11 ?a12 ?l12 ?b12 ?k12 ?a13 ?l13 ?b13 ?k13 ?a14 ?l14 ?b14 ?k14 ?a15 ?l15 ?b15 ?k15 ?a17 ?l17 ?b17 ?k17 ?a18 ?l18 ?b18 ?k18 ?a20 ?l20 ?b20 ?k20 ?a21 ?l21 ?b21 ?k21 ?a22 ?l22 ?b22 ?k22 ?a24 ?l24 ?b24 ?k24 ?a25 ?l25 ?b25 ?k25 ?a26 ?l26 ?b26 ?k26 ?a27 ?l27 ?b27 ?k27 ?a28 ?l28 ?b28 ?k28 ?a29 ?l29 ?b29 ?k29 ?a30 ?l30 ?b30 ?k30 ?a31 ?l31 ?b31 ?k31 ?w0 ?w1 ?w2 ?w3 ?w4 ?x1 ?x2 ?x3 ?x4 ?x5 ?x6 ?x7 ?x8 ?x9 ?x10 ?x11 ?x12 ?x13 ?x14 ?x15 ?x16 ?x17 ?x18 ?x19 ?x20
    (case a6 => k_is); (case l6 => k_is); (case b6 => k_is); (case k6 => k_is)
    (case a8 => k_is); (case l8 => k_is); (case b8 => k_is); (case k8 => k_is)
    (case a9 => k_is); (case l9 => k_is); (case b9 => k_is); (case k9 => k_is)
    (case a10 => k_is); (case l10 => k_is); (case b10 => k_is); (case k10 => k_is)
    (case a11 => k_is); (case l11 => k_is); (case b11 => k_is); (case k11 => k_is)
    (case a12 => k_is); (case l12 => k_is); (case b12 => k_is); (case k12 => k_is)
    (case a13 => k_is); (case l13 => k_is); (case b13 => k_is); (case k13 => k_is)
    (case a14 => k_is); (case l14 => k_is); (case b14 => k_is); (case k14 => k_is)
    (case a15 => k_is); (case l15 => k_is); (case b15 => k_is); (case k15 => k_is)
    (case a17 => k_is); (case l17 => k_is); (case b17 => k_is); (case k17 => k_is)
    (case a18 => k_is); (case l18 => k_is); (case b18 => k_is); (case k18 => k_is)
    (case a20 => k_is); (case l20 => k_is); (case b20 => k_is); (case k20 => k_is)
    (case a21 => k_is); (case l21 => k_is); (case b21 => k_is); (case k21 => k_is)
    (case a22 => k_is); (case l22 => k_is); (case b22 => k_is); (case k22 => k_is)
    (case a24 => k_is); (case l24 => k_is); (case b24 => k_is); (case k24 => k_is)
    (case a25 => k_is); (case l25 => k_is); (case b25 => k_is); (case k25 => k_is)
    (case a26 => k_is); (case l26 => k_is); (case b26 => k_is); (case k26 => k_is)
    (case a27 => k_is); (case l27 => k_is); (case b27 => k_is); (case k27 => k_is)
    (case a28 => k_is); (case l28 => k_is); (case b28 => k_is); (case k28 => k_is)
    (case a29 => k_is); (case l29 => k_is); (case b29 => k_is); (case k29 => k_is)
    (case a30 => k_is); (case l30 => k_is); (case b30 => k_is); (case k30 => k_is)
    (case a31 => k_is); (case l31 => k_is); (case b31 => k_is); (case k31 => k_is)
    (case w0 => k_is); (case w1 => k_is); (case w2 => k_is); (case w3 => k_is); (case w4 => k_is)
    (case x1 => k_is); (case x2 => k_is); (case x3 => k_is); (case x4 => k_is); (case x5 => k_is); (case x6 => k_is); (case x7 => k_is); (case x8 => k_is); (case x9 => k_is); (case x10 => k_is); (case x11 => k_is); (case x12 => k_is); (case x13 => k_is); (case x14 => k_is); (case x15 => k_is); (case x16 => k_is); (case x17 => k_is); (case x18 => k_is); (case x19 => k_is); (case x20 => k_is)
