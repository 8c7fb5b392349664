import PyProof.Rows.All
import Wide.All
import OpenK.AllK
import Wide.FinOn
import PyProof.EqAt
import PyProof.EqKinds
import PyProof.TupleCall
import HandS.ForMost
import HandS.Walk
import HandS.TupAny
import HandS.Conv
import HandS.Strs
import KE.KIndexOf
import HandS.Wide
import KE.DataCmp
import KE.SortData
import HandS.Style
import HandS.TupMul
import HandS.Zip
import KE.DataEq
import HandS.SetFor
import KE.GoesMore
import KE.GoesEnum
import KE.GoesZip
import HandS.NoneIn
import HandS.MakeKwOnly
import HandS.EndBits
import PyProof.Rows.ReprOcc
import PyProof.ReprBulk
import PySem.Challenge.RW_evenpacks_k09_comparisons
set_option Elab.async false
set_option linter.all false
set_option maxRecDepth 100000
set_option maxHeartbeats 4000000
/-! The tree layer, part F: tuples whose object is known, so that it is known to bear no names. -/
namespace Tr
open PySem PySem.Spec PyProof.Rows L2
def TupG (G : Hp) (a : Addr) (xs : List V) : Prop := ∃ o, G a = some (.frz o (.tup xs)) ∧ o.dict = none
section
variable {X : Cx} {pins : List (Addr × Obj)} {σ : L2.St} {H : Hp} {s : Shared} {K : PySem.W.Frag}
theorem TupG.sq {a : Addr} {xs : List V} (h : TupG H a xs) : SqT K H a xs := by
  obtain ⟨o, e, _⟩ := h
  exact .inl (.inr ⟨o, e⟩)
theorem TupG.grow {G G' : Hp} {a : Addr} {xs : List V} (h : TupG G a xs) (g : ∀ a o, G a = some o → G' a = some o) : TupG G' a xs := h.imp fun _ z => ⟨g _ _ z.1, z.2⟩
/-- what waits for a new tuple -/
def NewT (Q : VK) (H : Hp) (ys : List V) : Prop := ∀ (p : Addr) (o : Obj), H p = none → o.dict = none → Q (.ref p) (upd H p (.frz o (.tup ys)))
theorem fresh_tup (I : Inv X pins σ H s) {ys : List V} {its : List Value} (r : Vals ys its) (z : ys.length ≤ sizeLine) {o : Obj} {n : Nat} (hc : o.cls = .type "tuple") (hd : o.data = .seq its.toArray n) (hn : o.dict = none) (hf : o.isFreed = false) {Q : VK} (q : NewT Q H ys) :
    EP X pins σ Q (.ref s.heap.objs.size) { s with heap := s.heap.push o } := by
  have new : ObjOk X.prog X.w (upd H s.heap.objs.size (.frz o (.tup ys))) (s.heap.push o) s.heap.objs.size (.frz o (.tup ys)) := by
    have e := Heap.get?_push_size s.heap (o := o) hf
    exact ⟨e, z, its, r, ⟨o, e, hc, n, hd⟩⟩
  exact ⟨.ref _, _, I.laid (t' := s.toks) (fun c u e => Heap.get?_push_of_some _ e) (Nat.le_refl _) new, rfl, q _ o (I.hok.fresh (Nat.le_refl _)) hn⟩
end
section
variable {X : Cx} {es : List Expr} {t : TA} {pos : Pos}
def fTup (t : TA) : TE := fun σ H Q => t σ H fun xs H1 => xs.length ≤ sizeLine ∧ NewT Q H1 xs
theorem pf_tup {k : Nat} (h : PA X es t) : PE X (.Tuple es k pos) (fTup t) := by
  constructor
  intro pins s σ H Q I hq
  refine wpAny_Tuple_spliced (thn (h.run pos pins s σ H _ I hq) fun us s1 ⟨xs, H1, I1, r, z, q⟩ => ?_)
  exact ⟨by rw [← r.length]; exact z, fresh_tup I1 r z rfl rfl rfl rfl q⟩
theorem cf_tuple : CallR X (.type "tuple") (fun xs H Q => ∃ p ys, xs = [.ref p] ∧ ((SqL X.K H p ys ∧ NewT Q H ys) ∨ (SqT X.K H p ys ∧ Q (.ref p) H))) := by
  rintro pins s σ H xs us Q I r ⟨p, ys, rfl, h⟩
  obtain ⟨u, rfl, rx⟩ := vals1 r
  cases rx
  cases h with
  | inr h =>
    obtain ⟨its, _, pl, _⟩ := I.tuple h.1
    exact call_tuple_same pl ⟨.ref p, H, I, rfl, h.2⟩
  | inl h =>
    obtain ⟨its, r', pl, hz⟩ := I.list h.1
    refine call_tuple_list pl.isList (fun h' kp => ?_) (by simp only [List.size_toArray]; have := r'.length; omega)
    exact fresh_tup (I.kept (t' := s.toks) kp) r' hz rfl rfl rfl rfl h.2
def fSl (K : PySem.W.Frag) : V → Option Int → Option Int → Hp → VK → Prop := fun x lo hi H Q => ∃ a xs, x = .ref a ∧ SqT K H a xs ∧
  (HT.sIx xs.length 0 lo = 0 ∧ HT.sIx xs.length xs.length hi = xs.length → Q (.ref a) H) ∧ (¬ (HT.sIx xs.length 0 lo = 0 ∧ HT.sIx xs.length xs.length hi = xs.length) → NewT Q H (cutV xs lo hi))
theorem sf_tup : SlR X (fSl X.K) := by
  rintro pins s σ H x v vl vu lo hi sl Q I rx hs pl pu ⟨a, xs, rfl, hx, q1, q2⟩
  cases rx
  obtain ⟨its, r, ht, hz⟩ := I.tuple hx
  have hlen : its.toArray.size = xs.length := by
    rw [List.size_toArray]
    exact r.length.symm
  refine ⟨"tuple", _, PyProof.Rows.slot_tuple_getitem.lookup, ht.typeIs, ?_⟩
  rcases Classical.em (HT.sIx xs.length 0 lo = 0 ∧ HT.sIx xs.length xs.length hi = xs.length) with hw | hw
  · exact getItem_tuple_whole ht hs pl pu (by rw [hlen]; exact hw) ⟨.ref a, H, I, rfl, q1 hw⟩
  · refine HT.getItem_tuple_cut ht hs pl pu (by rw [hlen]; exact hw) ?_ (by rw [hlen]; exact hz)
    rw [hlen]
    exact fresh_tup I ((r.drop _).take _) (Nat.le_trans (cutV_length xs lo hi) hz) rfl rfl rfl rfl (q2 hw)
def fCat (K : PySem.W.Frag) : R2 := fun x y H Q => ∃ a b xs ys, x = .ref a ∧ y = .ref b ∧ SqT K H a xs ∧ SqT K H b ys ∧ xs.length + ys.length ≤ sizeLine ∧
  (xs = [] → Q (.ref b) H) ∧ (xs ≠ [] → ys = [] → Q (.ref a) H) ∧ (xs ≠ [] → ys ≠ [] → NewT Q H (xs ++ ys))
theorem of_cat : OpR X (binaryOp .Add) (fCat X.K) := by
  rintro pins s σ H x y v u Q I rx ry ⟨a, b, xs, ys, rfl, rfl, ha, hb, hz, q0, q1, q2⟩
  cases rx
  cases ry
  obtain ⟨its, r1, p1, _⟩ := I.tuple ha
  obtain ⟨its2, r2, p2, _⟩ := I.tuple hb
  rcases Classical.em (xs = []) with hx | hx
  · subst hx
    cases r1
    exact cat_tup0 p1 p2 ⟨.ref b, H, I, rfl, q0 rfl⟩
  · refine HT.cat_tup p1 p2 (fun z => hx (r1.nil_iff.mp z)) (fun z => ?_) (fun z => ?_) (by rw [← r1.length, ← r2.length]; exact hz)
    · exact ⟨.ref a, H, I, rfl, q1 hx (r2.nil_iff.mp z)⟩
    · exact fresh_tup I (r1.append r2) (by rw [List.length_append]; exact hz) rfl rfl rfl rfl (q2 hx fun w => z (r2.nil_iff.mpr w))
/-- tuple(range(..)) -/
def fRg (te : L2.St → Hp → (Int → Int → Hp → Prop) → Prop) : TE := fun σ H Q => te σ H fun a b H1 => RgOk a b ∧ NewT Q H1 (rgV a b)
theorem pf_rng {e : Expr} {p : Pos} {te : L2.St → Hp → (Int → Int → Hp → Prop) → Prop} (hc : X.calm = true) (hg : Gl X "tuple") (hm : X.mg "tuple" = none) (he : PRg X e te) (na : starEach [e] X.env = (false, eval e X.env) :: starEach [] X.env) :
    PE X (.Call (.Name "tuple" p) [e] [] pos) (fRg te) := by
  constructor
  intro pins s σ H Q I h
  refine Call_ (ld_blt I hg hm boot_tuple (PyProof.Rows.callWith_type1 (args_cons (thn (he pins s σ H _ I h) ?_) na) na))
  rintro x s1 ⟨r, a, b, t, u, v, H1, rfl, hr, I1, ⟨b1, b2, b3, b4, b5⟩, q⟩
  refine args_nil (call_tuple_range (n := (b - a).toNat) (I1.ok.hd hc) hr (small_one b1 b2 b3 b4) (rangeSize_nat a b) b5 fun h' tk acc hk hi => ?_)
  have hz : (rgV a b).length ≤ sizeLine := by
    rw [rgV_length, sizeLine_eq]
    omega
  exact fresh_tup (I1.kept (t' := tk) hk) (its := acc.toList) (vals_rg hi) hz rfl (by rw [Array.toArray_toList]) rfl rfl q
theorem mf_index : MtR X "tuple.index" (fun x xs H Q => ∃ p, ∃ ys : List Int, ∃ z, x = .ref p ∧ xs = [.int z] ∧ SqT X.K H p (ys.map V.int) ∧ z ∈ ys ∧ Q (.int (ys.idxOf z : Nat)) H) := by
  rintro pins s σ H x xs v us Q I rx rs ⟨p, ys, z, rfl, rfl, hq, hz, q⟩
  cases rx
  obtain ⟨u, rfl, t, rfl⟩ := vals1 rs
  obtain ⟨its, r, pl, _⟩ := I.tuple hq
  exact PySem.SeqAt.tuple_index_ints pl (intsAre_of r) hz ⟨.int _, H, I.tok _, ⟨_, rfl⟩, q⟩
def fMet (r : V → List V → Hp → VK → Prop) (to : TE) (t : TA) : TE := fun σ H Q => to σ H fun x H1 => (∃ p xs, x = .ref p ∧ TupG H1 p xs) ∧ t σ H1 fun vs H2 => r x vs H2 Q
theorem pf_met {o e : Expr} {to : TE} {name : Str} {apos : Pos} {id : String} {r : V → List V → Hp → VK → Prop} (slot : Slot "tuple" name id) (hty : typeOf (.builtin id) = pure (.type "method_descriptor")) (hm : MtR X id r) (ho : PE X o to) (ha : PA X [e] t)
    (hb : attributeBase o name X.env (eval o X.env) = eval o X.env)
    (hfew : ((backTo pos (starEach [e] X.env)).all (fun x => !x.1) && (backToKw pos (keywordEach [] X.env)).all (fun x => x.1.isSome) && decide ([e].length + ([] : List Keyword).length + (if ([] : List Keyword).isEmpty then 0 else 1) < 30)) = true)
    (hl : (apos.endLine == pos.line) = true) (hs : starEach [e] X.env = (false, eval e X.env) :: starEach [] X.env) : PE X (.Call (.Attribute o name apos) [e] [] pos) (fMet r to t) := by
  constructor
  intro pins s σ H Q I h
  refine wpAny_Call_method_late hb hfew hl rfl (thn (ho.run pins s σ H _ I h) ?_)
  rintro v s1 ⟨x, H1, I1, r1, ⟨p, xs, rfl, ob, eh, dn⟩, q1⟩
  have hob : s1.heap.get? p = some ob := (I1.hok p _ eh).1
  have hcl : ob.cls = .type "tuple" := by
    obtain ⟨_, _, _, ob', e', c', _⟩ := (I1.hok p _ eh).2
    rw [hob] at e'
    cases e'
    exact c'
  cases r1
  refine ⟨"tuple", id, PySem.F.plainAttrs_tuple, slot, hty, ⟨ob, hob, hcl⟩, fun a e => by cases e; exact ⟨ob, hob, dn⟩, ?_⟩
  have hA := ha.run pos pins s1 σ H1 _ I1 q1
  rw [hs] at hA ⊢
  refine Calls.callWith_builtin rfl (Calls.evalArgs_plain (thn hA ?_))
  rintro us s2 ⟨vs, H2, I2, r2, q2⟩
  exact hm pins s2 σ H2 (.ref p) vs (.ref p) us Q I2 rfl r2 q2
end
end Tr
set_option Elab.async false
set_option linter.all false
set_option maxRecDepth 100000
/-! The tree layer, part 1: values as trees, who owns what, readings lifted to trees. -/
namespace Tr
open PySem PySem.Spec PyProof.Rows L2

/-- a value as a tree: frozen data, a list that one name alone holds, the script -/
inductive Tv where
  | d (x : PyData)
  | own (xs : List Tv)
  | scr (ns : List Int)
  deriving Inhabited

mutual
def Tv.frz : Tv → Option PyData
  | .d x => some x
  | .own xs => match frzs xs with
    | some ds => some (.list ds)
    | none => none
  | .scr _ => none
def frzs : List Tv → Option (List PyData)
  | [] => some []
  | x :: xs => match x.frz, frzs xs with
    | some d, some ds => some (d :: ds)
    | _, _ => none
end

mutual
inductive Dq (G : Hp) : V → PyData → Prop
  | non : Dq G .non .none
  | bl (b : Bool) : Dq G (.bl b) (.bool b)
  | int (i : Int) : Dq G (.int i) (.int i)
  | str (x : Str) : Dq G (.str x) (.str x)
  | lst {a : Addr} {xs : List V} {ds : List PyData} : G a = some (.lst xs) → DqAll G xs ds → Dq G (.ref a) (.list ds)
  | tup {a : Addr} {xs : List V} {ds : List PyData} : TupG G a xs → DqAll G xs ds → Dq G (.ref a) (.tuple ds)
inductive DqAll (G : Hp) : List V → List PyData → Prop
  | nil : DqAll G [] []
  | cons {v : V} {vs : List V} {d : PyData} {ds : List PyData} : Dq G v d → DqAll G vs ds → DqAll G (v :: vs) (d :: ds)
end

mutual
inductive OR (K : PySem.W.Frag) (G H : Hp) : Tv → V → List Addr → Prop
  | d {x : PyData} {v : V} : Dq G v x → OR K G H (.d x) v []
  | own {a : Addr} {xs : List Tv} {vs : List V} {L : List Addr} : H a = some (.lst vs) → G a = none → ORs K G H xs vs L → OR K G H (.own xs) (.ref a) (a :: L)
  | scr {a : Addr} {ns : List Int} : SqL K G a (ns.map V.int) → OR K G H (.scr ns) (.ref a) []
inductive ORs (K : PySem.W.Frag) (G H : Hp) : List Tv → List V → List Addr → Prop
  | nil : ORs K G H [] [] []
  | cons {x : Tv} {v : V} {xs : List Tv} {vs : List V} {L M : List Addr} : OR K G H x v L → ORs K G H xs vs M → ORs K G H (x :: xs) (v :: vs) (L ++ M)
end

section
variable {K : PySem.W.Frag} {G G' H H' : Hp}
mutual
theorem Dq.grow (g : Same G G') : ∀ {v : V} {x : PyData}, Dq G v x → Dq G' v x
  | _, _, .non => .non
  | _, _, .bl b => .bl b
  | _, _, .int i => .int i
  | _, _, .str z => .str z
  | _, _, .lst hs ha => .lst (g _ _ hs) (DqAll.grow g ha)
  | _, _, .tup hs ha => .tup (hs.imp fun _ z => ⟨g _ _ z.1, z.2⟩) (DqAll.grow g ha)
theorem DqAll.grow (g : Same G G') : ∀ {vs : List V} {xs : List PyData}, DqAll G vs xs → DqAll G' vs xs
  | _, _, .nil => .nil
  | _, _, .cons h t => .cons (Dq.grow g h) (DqAll.grow g t)
end
mutual
theorem Dq.dp : ∀ {v : V} {x : PyData}, Dq G v x → Dp K G v x
  | _, _, .non => .non
  | _, _, .bl b => .bl b
  | _, _, .int i => .int i
  | _, _, .str z => .str z
  | _, _, .lst hs ha => .lst (SqL.of hs) (DqAll.dp ha)
  | _, _, .tup hs ha => .tup hs.sq (DqAll.dp ha)
theorem DqAll.dp : ∀ {vs : List V} {xs : List PyData}, DqAll G vs xs → DpAll K G vs xs
  | _, _, .nil => .nil
  | _, _, .cons h t => .cons (Dq.dp h) (DqAll.dp t)
end
theorem DqAll.length : ∀ {vs : List V} {xs : List PyData}, DqAll G vs xs → vs.length = xs.length
  | _, _, .nil => rfl
  | _, _, .cons _ t => by simp [DqAll.length t]
theorem DqAll.get : ∀ {vs : List V} {xs : List PyData} {i : Nat} {x : PyData}, DqAll G vs xs → xs[i]? = some x → ∃ v, vs[i]? = some v ∧ Dq G v x
  | _, _, _, _, .nil, e => by simp at e
  | _, _, 0, _, .cons h t, e => by simp at e; subst e; exact ⟨_, rfl, h⟩
  | _, _, i + 1, _, .cons h t, e => by
    obtain ⟨v, h1, h2⟩ := DqAll.get (i := i) t (by simpa using e)
    exact ⟨v, by simpa using h1, h2⟩
theorem ORs.length : ∀ {xs : List Tv} {vs : List V} {L : List Addr}, ORs K G H xs vs L → xs.length = vs.length
  | _, _, _, .nil => rfl
  | _, _, _, .cons _ t => by simp [ORs.length t]
theorem ORs.get : ∀ {xs : List Tv} {vs : List V} {L : List Addr} {i : Nat} {x : Tv}, ORs K G H xs vs L → xs[i]? = some x → ∃ v M, vs[i]? = some v ∧ OR K G H x v M ∧ ∀ a ∈ M, a ∈ L
  | _, _, _, _, _, .nil, e => by simp at e
  | _, _, _, 0, _, .cons h t, e => by simp at e; subst e; exact ⟨_, _, rfl, h, fun a ha => List.mem_append_left _ ha⟩
  | _, _, _, i + 1, _, .cons h t, e => by
    obtain ⟨v, M, h1, h2, h3⟩ := ORs.get (i := i) t (by simpa using e)
    exact ⟨v, M, by simpa using h1, h2, fun a ha => List.mem_append_right _ (h3 a ha)⟩

mutual
/-- the objects at L stand, the frozen heap grows -/
theorem OR.step (g : Same G G') : ∀ {x : Tv} {v : V} {L : List Addr}, OR K G H x v L → (∀ a ∈ L, H' a = H a) → (∀ a ∈ L, G' a = none) → OR K G' H' x v L
  | _, _, _, .d h, _, _ => .d (Dq.grow g h)
  | _, _, _, .own h n r, k, f => .own (by rw [k _ List.mem_cons_self]; exact h) (f _ List.mem_cons_self)
      (ORs.step g r (fun a ha => k a (List.mem_cons_of_mem _ ha)) fun a ha => f a (List.mem_cons_of_mem _ ha))
  | _, _, _, .scr h, _, _ => .scr (g.seq h)
theorem ORs.step (g : Same G G') : ∀ {xs : List Tv} {vs : List V} {L : List Addr}, ORs K G H xs vs L → (∀ a ∈ L, H' a = H a) → (∀ a ∈ L, G' a = none) → ORs K G' H' xs vs L
  | _, _, _, .nil, _, _ => .nil
  | _, _, _, .cons h t, k, f => .cons (OR.step g h (fun a ha => k a (List.mem_append_left _ ha)) fun a ha => f a (List.mem_append_left _ ha))
      (ORs.step g t (fun a ha => k a (List.mem_append_right _ ha)) fun a ha => f a (List.mem_append_right _ ha))
end

mutual
theorem OR.there : ∀ {x : Tv} {v : V} {L : List Addr}, OR K G H x v L → ∀ a ∈ L, (∃ o, H a = some o) ∧ G a = none
  | _, _, _, .d _, a, h => absurd h (by simp)
  | _, _, _, .scr _, a, h => absurd h (by simp)
  | _, _, _, .own h n r, a, ha => by
    rcases List.mem_cons.mp ha with e | ha
    · subst e; exact ⟨⟨_, h⟩, n⟩
    · exact ORs.there r a ha
theorem ORs.there : ∀ {xs : List Tv} {vs : List V} {L : List Addr}, ORs K G H xs vs L → ∀ a ∈ L, (∃ o, H a = some o) ∧ G a = none
  | _, _, _, .nil, a, h => absurd h (by simp)
  | _, _, _, .cons h t, a, ha => by
    rcases List.mem_append.mp ha with ha | ha
    · exact OR.there h a ha
    · exact ORs.there t a ha
end
theorem frz_own {xs : List Tv} {d : PyData} (h : (Tv.own xs).frz = some d) : ∃ ds, frzs xs = some ds ∧ d = .list ds := by
  rw [Tv.frz] at h
  split at h
  · rename_i ds e
    exact ⟨ds, e, (Option.some.inj h).symm⟩
  · cases h
theorem frzs_cons {x : Tv} {xs : List Tv} {ds : List PyData} (h : frzs (x :: xs) = some ds) : ∃ d es, x.frz = some d ∧ frzs xs = some es ∧ ds = d :: es := by
  rw [frzs] at h
  split at h
  · rename_i d es e1 e2
    exact ⟨d, es, e1, e2, (Option.some.inj h).symm⟩
  · cases h

mutual
/-- what a tree shows, read off the heap as it stands -/
theorem OR.now (g : Same G H) : ∀ {x : Tv} {v : V} {L : List Addr} {d : PyData}, OR K G H x v L → x.frz = some d → Dq H v d
  | _, _, _, _, .d h, e => by
    rw [Tv.frz] at e; cases e
    exact Dq.grow g h
  | _, _, _, _, .own h n r, e => by
    obtain ⟨ds, e1, rfl⟩ := frz_own e
    exact .lst h (ORs.now g r e1)
  | _, _, _, _, .scr _, e => by rw [Tv.frz] at e; cases e
theorem ORs.now (g : Same G H) : ∀ {xs : List Tv} {vs : List V} {L : List Addr} {ds : List PyData}, ORs K G H xs vs L → frzs xs = some ds → DqAll H vs ds
  | _, _, _, _, .nil, e => by
    rw [frzs] at e; cases e
    exact .nil
  | _, _, _, _, .cons h t, e => by
    obtain ⟨d, es, e1, e2, rfl⟩ := frzs_cons e
    exact .cons (OR.now g h e1) (ORs.now g t e2)
end

/-- the frozen heap with the objects at L -/
def freeze (G H : Hp) (L : List Addr) : Hp := fun a => if a ∈ L then H a else G a
theorem freeze_same (g : Same G H) {L : List Addr} : Same (freeze G H L) H := fun a o e => by
  unfold freeze at e
  split at e
  · exact e
  · exact g a o e
theorem freeze_grow {L : List Addr} (h : ∀ a ∈ L, G a = none) : Same G (freeze G H L) := fun a o e => by
  unfold freeze
  rw [if_neg]
  · exact e
  · intro ha
    rw [h a ha] at e
    cases e
theorem freeze_out {L : List Addr} {a : Addr} (h : a ∉ L) : freeze G H L a = G a := by unfold freeze; rw [if_neg h]
theorem freeze_in {L : List Addr} {a : Addr} (h : a ∈ L) : freeze G H L a = H a := by unfold freeze; rw [if_pos h]
mutual
theorem OR.frozen {M : List Addr} (hM : ∀ a ∈ M, G a = none) : ∀ {x : Tv} {v : V} {L : List Addr} {d : PyData}, OR K G H x v L → x.frz = some d → (∀ a ∈ L, a ∈ M) → Dq (freeze G H M) v d
  | _, _, _, _, .d h, e, _ => by
    rw [Tv.frz] at e; cases e
    exact Dq.grow (freeze_grow hM) h
  | _, _, _, _, .own h n r, e, k => by
    obtain ⟨ds, e1, rfl⟩ := frz_own e
    exact .lst (by rw [freeze_in (k _ List.mem_cons_self)]; exact h) (ORs.frozen hM r e1 fun a ha => k a (List.mem_cons_of_mem _ ha))
  | _, _, _, _, .scr _, e, _ => by rw [Tv.frz] at e; cases e
theorem ORs.frozen {M : List Addr} (hM : ∀ a ∈ M, G a = none) : ∀ {xs : List Tv} {vs : List V} {L : List Addr} {ds : List PyData}, ORs K G H xs vs L → frzs xs = some ds → (∀ a ∈ L, a ∈ M) → DqAll (freeze G H M) vs ds
  | _, _, _, _, .nil, e, _ => by
    rw [frzs] at e; cases e
    exact .nil
  | _, _, _, _, .cons h t, e, k => by
    obtain ⟨d, es, e1, e2, rfl⟩ := frzs_cons e
    exact .cons (OR.frozen hM h e1 fun a ha => k a (List.mem_append_left _ ha)) (ORs.frozen hM t e2 fun a ha => k a (List.mem_append_right _ ha))
end

/-! ### the names of a frame -/
abbrev Env' := List (Option Tv)
inductive SR (K : PySem.W.Frag) (G H : Hp) : Env' → L2.St → List Addr → Prop
  | nil : SR K G H [] [] []
  | no {o : Option V} {ρ : Env'} {σ : L2.St} {L : List Addr} : SR K G H ρ σ L → SR K G H (none :: ρ) (o :: σ) L
  | yes {x : Tv} {v : V} {ρ : Env'} {σ : L2.St} {L M : List Addr} : OR K G H x v L → SR K G H ρ σ M → SR K G H (some x :: ρ) (some v :: σ) (L ++ M)

theorem SR.step (g : Same G G') : ∀ {ρ : Env'} {σ : L2.St} {L : List Addr}, SR K G H ρ σ L → (∀ a ∈ L, H' a = H a) → (∀ a ∈ L, G' a = none) → SR K G' H' ρ σ L
  | _, _, _, .nil, _, _ => .nil
  | _, _, _, .no t, k, f => .no (SR.step g t k f)
  | _, _, _, .yes h t, k, f => .yes (OR.step g h (fun a ha => k a (List.mem_append_left _ ha)) fun a ha => f a (List.mem_append_left _ ha))
      (SR.step g t (fun a ha => k a (List.mem_append_right _ ha)) fun a ha => f a (List.mem_append_right _ ha))
theorem SR.there : ∀ {ρ : Env'} {σ : L2.St} {L : List Addr}, SR K G H ρ σ L → ∀ a ∈ L, (∃ o, H a = some o) ∧ G a = none
  | _, _, _, .nil, a, h => absurd h (by simp)
  | _, _, _, .no t, a, ha => SR.there t a ha
  | _, _, _, .yes h t, a, ha => by
    rcases List.mem_append.mp ha with ha | ha
    · exact OR.there h a ha
    · exact SR.there t a ha
theorem SR.length : ∀ {ρ : Env'} {σ : L2.St} {L : List Addr}, SR K G H ρ σ L → ρ.length = σ.length
  | _, _, _, .nil => rfl
  | _, _, _, .no t => by simp [SR.length t]
  | _, _, _, .yes _ t => by simp [SR.length t]

/-- the place i taken out: its own part, the others', and whatever is put there instead -/
theorem SR.at : ∀ {ρ : Env'} {σ : L2.St} {L : List Addr} {i : Nat} {x : Tv}, SR K G H ρ σ L → ρ[i]? = some (some x) →
    ∃ v P M S, L = P ++ M ++ S ∧ σ[i]? = some (some v) ∧ OR K G H x v M ∧
      (∀ {G' H' : Hp} {x' : Tv} {v' : V} {M' : List Addr}, Same G G' → (∀ a ∈ P ++ S, H' a = H a) → (∀ a ∈ P ++ S, G' a = none) → OR K G' H' x' v' M' → SR K G' H' (ρ.set i (some x')) (σ.set i (some v')) (P ++ M' ++ S)) ∧
      (∀ {G' H' : Hp}, Same G G' → (∀ a ∈ P ++ S, H' a = H a) → (∀ a ∈ P ++ S, G' a = none) → ∀ o, SR K G' H' (ρ.set i none) (σ.set i o) (P ++ S))
  | _, _, _, _, _, .nil, e => by simp at e
  | _, _, _, 0, _, .no t, e => by simp at e
  | _, _, _, 0, _, .yes (v := v) (L := L) (M := M) h t, e => by
    simp at e; subst e
    refine ⟨v, [], L, M, rfl, rfl, h, fun {G' H' x' v' M'} g k f q => ?_, fun {G' H'} g k f o => ?_⟩
    · exact .yes q (SR.step g t (fun a ha => k a ha) fun a ha => f a ha)
    · exact .no (SR.step g t (fun a ha => k a ha) fun a ha => f a ha)
  | _, _, _, i + 1, x, .no t, e => by
    obtain ⟨v, P, M, S, e1, e2, h, k1, k2⟩ := SR.at (i := i) t (by simpa using e)
    exact ⟨v, P, M, S, e1, by simpa using e2, h, fun g k f q => .no (k1 g k f q), fun g k f o => .no (k2 g k f o)⟩
  | _, _, _, i + 1, x, .yes (L := L) h0 t, e => by
    obtain ⟨v, P, M, S, e1, e2, h, k1, k2⟩ := SR.at (i := i) t (by simpa using e)
    refine ⟨v, L ++ P, M, S, by rw [e1]; simp, by simpa using e2, h, fun {G' H' x' v' M'} g k f q => ?_, fun {G' H'} g k f o => ?_⟩
    · have := SR.yes (OR.step (H' := H') g h0 (fun a ha => k a (by simp [ha])) fun a ha => f a (by simp [ha])) (k1 g (fun a ha => k a (by rcases List.mem_append.mp ha with h | h <;> simp [h])) (fun a ha => f a (by rcases List.mem_append.mp ha with h | h <;> simp [h])) q)
      simpa [List.append_assoc] using this
    · have := SR.yes (OR.step (H' := H') g h0 (fun a ha => k a (by simp [ha])) fun a ha => f a (by simp [ha])) (k2 g (fun a ha => k a (by rcases List.mem_append.mp ha with h | h <;> simp [h])) (fun a ha => f a (by rcases List.mem_append.mp ha with h | h <;> simp [h])) o)
      simpa [List.append_assoc] using this
/-- an empty place filled -/
theorem SR.fill : ∀ {ρ : Env'} {σ : L2.St} {L : List Addr} {i : Nat}, SR K G H ρ σ L → i < ρ.length →
    ∃ P M S, L = P ++ M ++ S ∧ (∀ {x' : Tv} {v' : V} {M' : List Addr}, OR K G H x' v' M' → SR K G H (ρ.set i (Option.some x')) (σ.set i (Option.some v')) (P ++ M' ++ S)) ∧ (∀ o, SR K G H (ρ.set i Option.none) (σ.set i o) (P ++ S))
  | _, _, _, _, .nil, e => by simp at e
  | _, _, _, 0, .no (L := L) t, e => ⟨[], [], L, rfl, fun q => .yes q t, fun o => .no t⟩
  | _, _, _, 0, .yes (L := L) (M := M) h t, e => ⟨[], L, M, rfl, fun q => .yes q t, fun o => .no t⟩
  | _, _, _, i + 1, .no t, e => by
    obtain ⟨P, M, S, e1, k1, k2⟩ := SR.fill (i := i) t (by simpa using e)
    exact ⟨P, M, S, e1, fun q => .no (k1 q), fun o => .no (k2 o)⟩
  | _, _, _, i + 1, .yes (L := L) h t, e => by
    obtain ⟨P, M, S, e1, k1, k2⟩ := SR.fill (i := i) t (by simpa using e)
    refine ⟨L ++ P, M, S, by rw [e1]; simp, fun {x' v' M'} q => ?_, fun o => ?_⟩
    · have := SR.yes h (k1 q); simpa [List.append_assoc] using this
    · have := SR.yes h (k2 o); simpa [List.append_assoc] using this

/-- the state: the frame heap F and the frozen heap G stand in H; the places hold the trees ρ; L are the owned objects -/
structure Sta (K : PySem.W.Frag) (F G H : Hp) (ρ : Env') (σ : L2.St) (L : List Addr) : Prop where
  sr : SR K G H ρ σ L
  nd : L.Nodup
  fr : ∀ a ∈ L, F a = none
  fh : Same F H
  gh : Same G H

/-- behind a reading: F stands, G has grown by what F does not hold -/
structure Aft (K : PySem.W.Frag) (F G G' H' : Hp) (ρ' : Env') (σ : L2.St) (L' : List Addr) : Prop where
  st : Sta K F G' H' ρ' σ L'
  gg : Same G G'
  gf : ∀ a, F a ≠ none → G a = none → G' a = none

/-- a value beside the places -/
structure Val (K : PySem.W.Frag) (F G H : Hp) (L : List Addr) (x : Tv) (v : V) (M : List Addr) : Prop where
  r : OR K G H x v M
  nd : M.Nodup
  fr : ∀ a ∈ M, F a = none
  ap : ∀ a ∈ M, a ∉ L

abbrev WE := Env' → (Tv → Env' → Prop) → Prop
def lift (K : PySem.W.Frag) (w : WE) : TE := fun σ H R => ∃ F G ρ L Q, Sta K F G H ρ σ L ∧ w ρ Q ∧
  ∀ x v ρ' G' H' L' M, Aft K F G G' H' ρ' σ L' → Val K F G' H' L' x v M → Q x ρ' → R v H'

theorem Aft.refl {F : Hp} {ρ : Env'} {σ : L2.St} {L : List Addr} (s : Sta K F G H ρ σ L) : Aft K F G G H ρ σ L := ⟨s, Same.refl _, fun _ _ e => e⟩
theorem Aft.trans {F G1 G2 H1 H2 : Hp} {ρ1 ρ2 : Env'} {σ σ1 : L2.St} {L1 L2 : List Addr} (a : Aft K F G G1 H1 ρ1 σ1 L1) (b : Aft K F G1 G2 H2 ρ2 σ L2) : Aft K F G G2 H2 ρ2 σ L2 :=
  ⟨b.st, a.gg.trans b.gg, fun x h1 h2 => b.gf x h1 (a.gf x h1 h2)⟩
theorem Val.pure {F : Hp} {L : List Addr} {x : PyData} {v : V} (h : Dq G v x) : Val K F G H L (.d x) v [] := ⟨.d h, List.nodup_nil, fun _ z => absurd z (by simp), fun _ z => absurd z (by simp)⟩

/-- a value is held while something else runs -/
def hold (F H : Hp) (M : List Addr) : Hp := fun a => if a ∈ M then H a else F a
theorem Sta.hold {F : Hp} {ρ : Env'} {σ : L2.St} {L M : List Addr} {x : Tv} {v : V} (s : Sta K F G H ρ σ L) (q : Val K F G H L x v M) : Sta K (hold F H M) G H ρ σ L where
  sr := s.sr
  nd := s.nd
  fr := fun a ha => by
    unfold Tr.hold
    rw [if_neg fun h => q.ap a h ha]
    exact s.fr a ha
  fh := fun a o e => by
    unfold Tr.hold at e
    split at e
    · exact e
    · exact s.fh a o e
  gh := s.gh
theorem hold_le {F : Hp} {M : List Addr} (h : ∀ a ∈ M, F a = none) : Same F (hold F H M) := fun a o e => by
  unfold hold
  rw [if_neg]
  · exact e
  · intro ha
    rw [h a ha] at e
    cases e
theorem hold_in {F : Hp} {M : List Addr} {a : Addr} (h : a ∈ M) : hold F H M a = H a := by unfold hold; rw [if_pos h]
theorem Sta.weak {F F' : Hp} {ρ : Env'} {σ : L2.St} {L : List Addr} (s : Sta K F' G H ρ σ L) (f : Same F F') : Sta K F G H ρ σ L :=
  ⟨s.sr, s.nd, fun a ha => f.free (s.fr a ha), f.trans s.fh, s.gh⟩
theorem ne_of_some {F F' : Hp} {a : Addr} (f : Same F F') (h : F a ≠ none) : F' a ≠ none := by
  cases e : F a with
  | none => exact absurd e h
  | some o => rw [f a o e]; exact fun z => by cases z
/-- behind what ran: the held value stands -/
theorem Aft.held {F G1 H1 : Hp} {ρ : Env'} {σ : L2.St} {L L1 M : List Addr} {x : Tv} {v : V} (q : Val K F G H L x v M) (a : Aft K (hold F H M) G G1 H1 ρ σ L1) :
    Aft K F G G1 H1 ρ σ L1 ∧ Val K F G1 H1 L1 x v M := by
  have le : Same F (hold F H M) := hold_le q.fr
  have same : ∀ b ∈ M, H1 b = H b := fun b hb => by
    obtain ⟨⟨o, ho⟩, _⟩ := q.r.there b hb
    have := a.st.fh b o (by rw [hold_in hb]; exact ho)
    rw [this, ho]
  refine ⟨⟨a.st.weak le, a.gg, fun b hb e => a.gf b (ne_of_some le hb) e⟩, q.r.step a.gg same fun b hb => ?_, q.nd, q.fr, fun b hb hl => ?_⟩
  · obtain ⟨⟨o, ho⟩, hn⟩ := q.r.there b hb
    refine a.gf b ?_ hn
    rw [hold_in hb, ho]
    exact fun z => by cases z
  · have := a.st.fr b hl
    obtain ⟨⟨o, ho⟩, _⟩ := q.r.there b hb
    rw [hold_in hb, ho] at this
    cases this
/-- a second value got while the first one was held stands apart from it -/
theorem held_apart {F G1 H1 : Hp} {L L1 M M1 : List Addr} {x y : Tv} {v u : V} (q : Val K F G H L x v M) (q1 : Val K (hold F H M) G1 H1 L1 y u M1) : Val K F G1 H1 L1 y u M1 ∧ ∀ a ∈ M1, a ∉ M := by
  refine ⟨⟨q1.r, q1.nd, fun a ha => (hold_le q.fr).free (q1.fr a ha), q1.ap⟩, fun a h1 h => ?_⟩
  have := q1.fr a h1
  obtain ⟨⟨o, ho⟩, _⟩ := q.r.there a h
  rw [hold_in h, ho] at this
  cases this

theorem PE.imp {X : Cx} {e : Expr} {t t' : TE} (h : PE X e t) (k : ∀ σ H Q, t' σ H Q → t σ H Q) : PE X e t' := ⟨fun pins s σ H Q I q => h.run pins s σ H Q I (k σ H Q q)⟩
theorem PT.imp {X : Cx} {e : Expr} {t t' : TT} (h : PT X e t) (k : ∀ σ H Q, t' σ H Q → t σ H Q) : PT X e t' := ⟨fun pins s σ H Q I q => h.run pins s σ H Q I (k σ H Q q)⟩
theorem PA.imp {X : Cx} {e : List Expr} {t t' : TA} (h : PA X e t) (k : ∀ σ H Q, t' σ H Q → t σ H Q) : PA X e t' := ⟨fun pos pins s σ H Q I q => h.run pos pins s σ H Q I (k σ H Q q)⟩
theorem PS.imp {X : Cx} {st : Stmt} {t t' : TS} (h : PS X st t) (k : ∀ D σ H, t' D σ H → t D σ H) : PS X st t' := ⟨fun pins s σ H D I q => h.run pins s σ H D I (k D σ H q)⟩
theorem PSs.imp {X : Cx} {st : List Stmt} {t t' : TS} (h : PSs X st t) (k : ∀ D σ H, t' D σ H → t D σ H) : PSs X st t' := ⟨fun pins s σ H D I q => h.run pins s σ H D I (k D σ H q)⟩

/-- a new frozen object -/
theorem Sta.laid {F : Hp} {ρ : Env'} {σ : L2.St} {L : List Addr} {p : Addr} {o : HO} (s : Sta K F G H ρ σ L) (hp : H p = none) : Aft K F G (upd G p o) (upd H p o) ρ σ L := by
  have gp : G p = none := s.gh.free hp
  have g : Same G (upd G p o) := fun a x e => by rw [upd_ne (ne_of_none e gp)]; exact e
  have ne : ∀ a ∈ L, a ≠ p := fun a ha z => by
    obtain ⟨⟨x, hx⟩, _⟩ := s.sr.there a ha
    rw [z, hp] at hx
    cases hx
  refine ⟨⟨s.sr.step g (fun a ha => upd_ne (ne a ha)) fun a ha => ?_, s.nd, s.fr, fun a x e => ?_, fun a x e => ?_⟩, g, fun a h1 h2 => ?_⟩
  · rw [upd_ne (ne a ha)]
    exact (s.sr.there a ha).2
  · rw [upd_ne (ne_of_none (s.fh a x e) hp)]
    exact s.fh a x e
  · by_cases h : a = p
    · subst h
      rw [upd_same] at e ⊢
      exact e
    · rw [upd_ne h] at e ⊢
      exact s.gh a x e
  · by_cases h : a = p
    · subst h
      exact absurd (s.fh.free hp) h1
    · rw [upd_ne h]
      exact h2
/-- a new list of one's own -/
theorem Sta.made {F : Hp} {ρ : Env'} {σ : L2.St} {L : List Addr} {p : Addr} {o : HO} (s : Sta K F G H ρ σ L) (hp : H p = none) : Aft K F G G (upd H p o) ρ σ L := by
  have ne : ∀ a ∈ L, a ≠ p := fun a ha z => by
    obtain ⟨⟨x, hx⟩, _⟩ := s.sr.there a ha
    rw [z, hp] at hx
    cases hx
  refine ⟨⟨s.sr.step (Same.refl _) (fun a ha => upd_ne (ne a ha)) fun a ha => (s.sr.there a ha).2, s.nd, s.fr, fun a x e => ?_, fun a x e => ?_⟩, Same.refl _, fun a _ h => h⟩
  · rw [upd_ne (ne_of_none (s.fh a x e) hp)]
    exact s.fh a x e
  · rw [upd_ne (ne_of_none (s.gh a x e) hp)]
    exact s.gh a x e
/-- a value is frozen where it stands -/
theorem Sta.frozen {F : Hp} {ρ : Env'} {σ : L2.St} {L M : List Addr} {x : Tv} {v : V} {d : PyData} (s : Sta K F G H ρ σ L) (q : Val K F G H L x v M) (e : x.frz = some d) : Aft K F G (freeze G H M) H ρ σ L ∧ Dq (freeze G H M) v d := by
  have hM : ∀ a ∈ M, G a = none := fun a ha => (q.r.there a ha).2
  refine ⟨⟨⟨s.sr.step (freeze_grow hM) (fun _ _ => rfl) fun a ha => ?_, s.nd, s.fr, s.fh, freeze_same s.gh⟩, freeze_grow hM, fun a h1 h2 => ?_⟩, q.r.frozen hM e fun _ h => h⟩
  · rw [freeze_out fun h => q.ap a h ha]
    exact (s.sr.there a ha).2
  · by_cases h : a ∈ M
    · exact absurd (q.fr a h) h1
    · rw [freeze_out h]
      exact h2
end
end Tr
set_option Elab.async false
set_option linter.all false
set_option maxRecDepth 100000
/-! The tree layer, part 2: the small language, what it means over trees. -/
namespace Tr
open PySem PySem.Spec PyProof.Rows L2

/-- simple expressions: they leave everything as it is -/
inductive SE where
  | var (i : Nat) | int (n : Int) | str (s : Str) | bl (b : Bool) | non | glob (x : Str)
  | add (a b : SE) | sub (a b : SE) | neg (a : SE) | idx (a b : SE) | len (a : SE)
inductive BO where | add | sub | mul | fdiv | mod | pow
inductive CO where | eq | ne | lt | le | gt | ge | inn | nin
inductive Bn where | len | abs | int | str | repr | tuple | list | sorted | sum | any | all | max | min | max2 | min2
mutual
inductive Tg where | name (i : Nat) | tup (ts : TgL)
inductive TgL where | nil | cons (t : Tg) (ts : TgL)
end
mutual
inductive E where
  | sim (s : SE)
  | bin (o : BO) (a b : E) | neg (a : E)
  | cmp (o : CO) (a b : E) | isN (a : E) | notN (a : E) | chain (o o' : CO) (a b c : E)
  | and_ (es : EL) | or_ (es : EL) | not_ (a : E) | ite (c a b : E)
  | tup (es : EL) | lst (es : EL)
  | idx (a b : E) | slice (a : E) (lo hi : OE) | rev (a : E)
  | callL (f : Str) (ss : List SE)
  | call (f : Str) (es : EL) | callK (f : Str) (ks : List Str) (es : EL)
  | blt1 (b : Bn) (e : E) | bltv (b : Bn) (e : E) | blt2 (b : Bn) (e e2 : E) | sortset (a : E) | lrng (t : Bool) (a : OE) (b : E)
  | lc (elt : E) (tg : Tg) (it : It) (c : OE) (vs : List Nat)
  | pop (i : Nat) (a : E) | index (a b : E)
inductive EL where | nil | cons (e : E) (es : EL)
inductive OE where | non | som (e : E)
inductive It where | seq (a : E) | rng (a : OE) (b : E) | enum (a : E) | zip (a b : E)
end
mutual
inductive S where
  | set (i : Nat) (e : E) | unp (tg : Tg) (e : E) | par (is : List Nat) (es : EL)
  | ix1 (i : Nat) (k : SE) (e : E) | ix2 (i : Nat) (j k : SE) (e : E) | ixp (i : Nat) (j k : SE) (es : EL) | ixe (i : Nat) (a e : E)
  | app (i : Nat) (e : E) | ext (i : Nat) (e : E) | expr (e : E)
  | ret (e : E) | retv (i : Nat) | retN
  | ite (c : E) (a b : SL) | for_ (tg : Tg) (it : It) (body : SL) (er : List Nat) | while_ (c : E) (body : SL) (er : List Nat)
  | pass | brk | cont | never
inductive SL where | nil | cons (s : S) (ss : SL)
end

/-! ### data -/
/-- not deeper than n, no dict within -/
def shal : Nat → PyData → Bool
  | _, .none => true
  | _, .bool _ => true
  | _, .int _ => true
  | _, .str _ => true
  | 0, .list _ => false
  | 0, .tuple _ => false
  | n + 1, .list xs => xs.all (shal n)
  | n + 1, .tuple xs => xs.all (shal n)
  | _, .dict _ => false
/-- it is shown in a text that fits -/
def Tv.item (x : Tv) (k : Int) : Option Tv := match x with
  | .own xs => atI xs k
  | .d (.list xs) => (atI xs k).map .d
  | .d (.tuple xs) => (atI xs k).map .d
  | _ => none
def Tv.len (x : Tv) : Option Nat := match x with
  | .own xs => some xs.length
  | .d (.list xs) => some xs.length
  | .d (.tuple xs) => some xs.length
  | .scr ns => some ns.length
  | _ => none

abbrev Gam := Str → Option PyData
def sv (Γ : Gam) (ρ : Env') : SE → Option Tv
  | .var i => (ρ[i]?).join
  | .int n => some (.d (.int n))
  | .str z => some (.d (.str z))
  | .bl b => some (.d (.bool b))
  | .non => some (.d .none)
  | .glob x => (Γ x).map .d
  | .add a b => match sv Γ ρ a, sv Γ ρ b with
    | some (.d (.int i)), some (.d (.int j)) => some (.d (.int (i + j)))
    | _, _ => none
  | .sub a b => match sv Γ ρ a, sv Γ ρ b with
    | some (.d (.int i)), some (.d (.int j)) => some (.d (.int (i - j)))
    | _, _ => none
  | .neg a => match sv Γ ρ a with
    | some (.d (.int i)) => some (.d (.int (-i)))
    | _ => none
  | .idx a b => match sv Γ ρ a, sv Γ ρ b with
    | some x, some (.d (.int k)) => x.item k
    | _, _ => none
  | .len a => match sv Γ ρ a with
    | some x => x.len.map fun n => .d (.int n)
    | none => none

/-- a simple expression as a value: what one name alone holds is frozen in its place -/
def simV (Γ : Gam) (s : SE) : WE := fun ρ Q => match sv Γ ρ s with
  | some (.d x) => Q (.d x) ρ
  | some (.scr ns) => Q (.scr ns) ρ
  | some (.own xs) => (match s with
    | .var i => ∃ d, (Tv.own xs).frz = some d ∧ Q (.d d) (ρ.set i (some (.d d)))
    | _ => False)
  | none => False
/-- looked at, not taken -/
def simR (Γ : Gam) (s : SE) : WE := fun ρ Q => ∃ x, sv Γ ρ s = some x ∧ Q x ρ

def opB : BO → Tv → Tv → (Tv → Prop) → Prop
  | .add, .d (.int i), .d (.int j), Q => Q (.d (.int (i + j)))
  | .add, .d (.str x), .d (.str y), Q => x.length + y.length ≤ sizeLine ∧ Q (.d (.str (x ++ y)))
  | .add, .d (.tuple xs), .d (.tuple ys), Q => xs.length + ys.length ≤ sizeLine ∧ Q (.d (.tuple (xs ++ ys)))
  | .add, x, y, Q => ∃ xs ys, x.frz = some (.list xs) ∧ y.frz = some (.list ys) ∧ xs.length + ys.length ≤ sizeLine ∧ Q (.own ((xs ++ ys).map .d))
  | .sub, .d (.int i), .d (.int j), Q => Q (.d (.int (i - j)))
  | .mul, .d (.int i), .d (.int j), Q => (CMul i j ∨ CMulW i j) ∧ Q (.d (.int (i * j)))
  | .mul, x, .d (.int k), Q => ∃ xs, x.frz = some (.list xs) ∧ -(2 ^ 63) ≤ k ∧ k < 2 ^ 63 ∧ xs.length * k.toNat ≤ sizeLine ∧ Q (.own ((List.replicate k.toNat xs).flatten.map .d))
  | .fdiv, .d (.int i), .d (.int j), Q => CDivW i j ∧ Q (.d (.int (i / j)))
  | .mod, .d (.int i), .d (.int j), Q => 0 < j ∧ Q (.d (.int (i % j)))
  | .pow, .d (.int i), .d (.int j), Q => CPow i j ∧ Q (.d (.int (i ^ j.toNat)))
  | _, _, _, _ => False

/-- two data by an order -/
def ordC (a b : PyData) (p : Int → Int → Bool) (d : Bool) (Q : Bool → Prop) : Prop := match a, b with
  | .int i, .int j => Q (p i j)
  | a, b => PySem.W.alike a b = true ∧ a ≠ .none ∧ shal 30 a = true ∧ Q d
def inC (a b : PyData) (f : Bool → Bool) (Q : Bool → Prop) : Prop := match b with
  | .list xs => shal 30 a = true ∧ shal 30 (.list xs) = true ∧ Q (f (xs.any fun y => PyData.eqv y a))
  | .tuple xs => shal 30 a = true ∧ shal 30 (.tuple xs) = true ∧ Q (f (xs.any fun y => PyData.eqv y a))
  | _ => False
def cmpD : CO → PyData → PyData → (Bool → Prop) → Prop
  | .eq, a, b, Q => shal 30 a = true ∧ shal 30 b = true ∧ Q (PyData.eqv a b)
  | .ne, a, b, Q => shal 30 a = true ∧ shal 30 b = true ∧ Q (!PyData.eqv a b)
  | .lt, a, b, Q => ordC a b (fun i j => decide (i < j)) (PySem.W.dataLt a b) Q
  | .le, a, b, Q => ordC a b (fun i j => decide (i ≤ j)) (!PySem.W.dataLt b a) Q
  | .gt, a, b, Q => ordC a b (fun i j => decide (j < i)) (PySem.W.dataLt b a) Q
  | .ge, a, b, Q => ordC a b (fun i j => decide (j ≤ i)) (!PySem.W.dataLt a b) Q
  | .inn, a, b, Q => inC a b id Q
  | .nin, a, b, Q => inC a b not Q
def cmpO (o : CO) (x y : Tv) (Q : Bool → Prop) : Prop := ∃ a b, x.frz = some a ∧ y.frz = some b ∧ cmpD o a b Q

def cutD {α : Type} (xs : List α) (lo hi : Option Int) : List α := (xs.drop (HT.sIx xs.length 0 lo)).take (HT.sIx xs.length xs.length hi - HT.sIx xs.length 0 lo)
def sliceO (x : Tv) (lo hi : Option Int) (Q : Tv → Prop) : Prop := match x with
  | .scr ns => Q (.own ((cutD ns lo hi).map fun n => .d (.int n)))
  | .d (.tuple xs) => Q (.d (.tuple (cutD xs lo hi)))
  | x => ∃ xs, x.frz = some (.list xs) ∧ Q (.own ((cutD xs lo hi).map .d))
def revO (x : Tv) (Q : Tv → Prop) : Prop := ∃ xs, x.frz = some (.list xs) ∧ Q (.own (xs.reverse.map .d))

def isNonD : PyData → Bool
  | .none => true
  | _ => false
/-- the items of a list or a tuple -/
def PyData.itemsOf : PyData → Option (List PyData)
  | .list xs => some xs
  | .tuple xs => some xs
  | _ => none
def intsOf : List PyData → Option (List Int)
  | [] => some []
  | .int i :: xs => (intsOf xs).map (i :: ·)
  | _ => none
def boolsOf : List PyData → Option (List Bool)
  | [] => some []
  | .bool b :: xs => (boolsOf xs).map (b :: ·)
  | _ => none
def dle (a b : PyData) : Bool := !PySem.W.dataLt b a
/-- what is asked of a list that is sorted -/
structure SortOk (xs : List PyData) : Prop where
  al : PySem.W.AllAlike xs
  so : PySem.W.Sortable xs
  sh : ∀ x ∈ xs, shal 30 x = true
structure ShowOk (d : PyData) : Prop where
  sh : d.showable = true
  nd : shal 30 d = true
  sz : d.shown.length ≤ sizeLine
def intOfD : PyData → Option Int
  | .int i => some i
  | .bool b => some (if b then 1 else 0)
  | _ => none
def bltO (b : Bn) (as : List Tv) (Q : Tv → Prop) : Prop := match b with
  | .len => ∃ x n, as = [x] ∧ x.len = some n ∧ Q (.d (.int (n : Nat)))
  | .abs => ∃ i, as = [.d (.int i)] ∧ Q (.d (.int (if i < 0 then -i else i)))
  | .int => ∃ d i, as = [.d d] ∧ intOfD d = some i ∧ Q (.d (.int i))
  | .str => ∃ i, as = [.d (.int i)] ∧ i.natAbs.log2 < 1920 ∧ Q (.d (.str (toString i)))
  | .repr => ∃ x d xs, as = [x] ∧ x.frz = some d ∧ PyData.itemsOf d = some xs ∧ ShowOk d ∧ Q (.d (.str d.shown))
  | .tuple => ∃ x d xs, as = [x] ∧ x.frz = some d ∧ PyData.itemsOf d = some xs ∧ Q (.d (.tuple xs))
  | .list => ∃ x d xs, as = [x] ∧ x.frz = some d ∧ PyData.itemsOf d = some xs ∧ Q (.own (xs.map .d))
  | .sorted => ∃ x xs, as = [x] ∧ x.frz = some (.list xs) ∧ SortOk xs ∧ Q (.own ((xs.mergeSort dle).map .d))
  | .sum => ∃ x d xs ns, as = [x] ∧ x.frz = some d ∧ PyData.itemsOf d = some xs ∧ intsOf xs = some ns ∧ Q (.d (.int ns.sum))
  | .any => ∃ x xs bs, as = [x] ∧ x.frz = some (.list xs) ∧ boolsOf xs = some bs ∧ Q (.d (.bool (bs.any id)))
  | .all => ∃ x xs bs, as = [x] ∧ x.frz = some (.list xs) ∧ boolsOf xs = some bs ∧ Q (.d (.bool (bs.all id)))
  | .max => ∃ x xs n ns, as = [x] ∧ x.frz = some (.list xs) ∧ intsOf xs = some (n :: ns) ∧ Q (.d (.int (ns.foldl max n)))
  | .min => ∃ x xs n ns, as = [x] ∧ x.frz = some (.list xs) ∧ intsOf xs = some (n :: ns) ∧ Q (.d (.int (ns.foldl min n)))
  | .max2 => ∃ i j, as = [.d (.int i), .d (.int j)] ∧ Q (.d (.int (if j > i then j else i)))
  | .min2 => ∃ i j, as = [.d (.int i), .d (.int j)] ∧ Q (.d (.int (if j < i then j else i)))
/-- what stands in sorted(set(..)) of ints -/
def isSortSet (ns ms : List Int) : Prop := ms.Pairwise (· < ·) ∧ ∀ n, n ∈ ms ↔ n ∈ ns

/-! ### calls -/
abbrev FS := List Tv → (Tv → List (Option Tv) → Prop) → Prop
structure FE where
  ps : List Str
  kw : List (List Str)
  ow : Option Nat
  fs : FS
/-- what goes to a callee: frozen data, or the script -/
def argT : Tv → Option Tv
  | .scr ns => some (.scr ns)
  | .d x => some (.d x)
  | .own xs => (Tv.own xs).frz.map .d
def argTs : List Tv → Option (List Tv)
  | [] => some []
  | x :: xs => match argT x, argTs xs with
    | some a, some as => some (a :: as)
    | _, _ => none
/-- the keywords' values, in the parameters' order -/
def kperm {α : Type} (ks : List Str) (ws : List α) : List Str → Option (List α)
  | [] => some []
  | p :: ps => match (ks.zip ws).lookup p, kperm ks ws ps with
    | some a, some as => some (a :: as)
    | _, _ => none
abbrev Phi := Str → Option FE

def svs (Γ : Gam) (ρ : Env') : List SE → Option (List Tv)
  | [] => some []
  | s :: ss => match sv Γ ρ s, svs Γ ρ ss with
    | some x, some xs => some (x :: xs)
    | _, _ => none
/-- no object -/
def scalT : Tv → Bool
  | .d .none => true
  | .d (.bool _) => true
  | .d (.int _) => true
  | .d (.str _) => true
  | _ => false
def wipeR (ρ : Env') : List Nat → Env'
  | [] => ρ
  | v :: vs => (wipeR ρ vs).set v none
def keepD : Option Tv → Option Tv
  | some (.d x) => some (.d x)
  | some (.scr n) => some (.scr n)
  | _ => none
def restR (ρ0 ρ : Env') : List Nat → Env'
  | [] => ρ
  | v :: vs => (restR ρ0 ρ vs).set v (keepD (ρ0[v]?).join)

mutual
/-- a target takes data -/
def wTg : Tg → PyData → Env' → (Env' → Prop) → Prop
  | .name i => fun x ρ Q => i < ρ.length ∧ Q (ρ.set i (some (.d x)))
  | .tup ts => fun x ρ Q => ∃ xs, PyData.itemsOf x = some xs ∧ wTgs ts xs ρ Q
def wTgs : TgL → List PyData → Env' → (Env' → Prop) → Prop
  | .nil => fun xs ρ Q => xs = [] ∧ Q ρ
  | .cons t ts => fun xs ρ Q => ∃ y ys, xs = y :: ys ∧ wTg t y ρ fun ρ1 => wTgs ts ys ρ1 Q
end
mutual
def tgVs : Tg → List Nat
  | .name i => [i]
  | .tup ts => tgVss ts
def tgVss : TgL → List Nat
  | .nil => []
  | .cons t ts => tgVs t ++ tgVss ts
end
def E.sim? : E → Option SE
  | .sim s => some s
  | _ => none
def SE.var? : SE → Option Nat
  | .var i => some i
  | _ => none
def E.var? (e : E) : Option Nat := e.sim?.bind SE.var?

abbrev WI := Env' → (List PyData → Env' → Prop) → Prop
abbrev WL := Env' → (List Tv → Env' → Prop) → Prop
abbrev WO := Env' → (Option Int → Env' → Prop) → Prop
def frzT (x : Tv) (Q : PyData → Prop) : Prop := ∃ d, x.frz = some d ∧ Q d
mutual
def wE (Γ : Gam) (Φ : Phi) : E → WE
  | .sim s => simV Γ s
  | .bin o a b => fun ρ Q => wE Γ Φ a ρ fun x ρ1 => wE Γ Φ b ρ1 fun y ρ2 => opB o x y fun z => Q z ρ2
  | .neg a => fun ρ Q => wE Γ Φ a ρ fun x ρ1 => ∃ i, x = .d (.int i) ∧ Q (.d (.int (-i))) ρ1
  | .cmp o a b => fun ρ Q => (match a.var? with
    | some i => (∃ x, ρ[i]? = some (some x)) ∧ (match b.sim? with
      | some s => simR Γ s
      | none => wE Γ Φ b) ρ fun y ρ2 => ∃ x, ρ2[i]? = some (some x) ∧ cmpO o x y fun k => Q (.d (.bool k)) ρ2
    | none => wE Γ Φ a ρ fun x ρ1 => (match b.sim? with
      | some s => simR Γ s
      | none => wE Γ Φ b) ρ1 fun y ρ2 => cmpO o x y fun k => Q (.d (.bool k)) ρ2)
  | .isN a => fun ρ Q => (match a.sim? with
      | some s => simR Γ s
      | none => wE Γ Φ a) ρ fun x ρ1 => frzT x fun d => Q (.d (.bool (isNonD d))) ρ1
  | .notN a => fun ρ Q => (match a.sim? with
      | some s => simR Γ s
      | none => wE Γ Φ a) ρ fun x ρ1 => frzT x fun d => Q (.d (.bool (!isNonD d))) ρ1
  | .chain o o' a b c => fun ρ Q => wE Γ Φ a ρ fun x ρ1 => wE Γ Φ b ρ1 fun y ρ2 => cmpO o x y fun k => (k = true → wE Γ Φ c ρ2 fun z ρ3 => cmpO o' y z fun l => Q (.d (.bool l)) ρ3) ∧ (k = false → Q (.d (.bool false)) ρ2)
  | .and_ es => wAnd Γ Φ es
  | .or_ es => wOr Γ Φ es
  | .not_ a => fun ρ Q => wE Γ Φ a ρ fun x ρ1 => ∃ b, x = .d (.bool b) ∧ Q (.d (.bool (!b))) ρ1
  | .ite c a b => fun ρ Q => wE Γ Φ c ρ fun x ρ1 => ∃ k, x = .d (.bool k) ∧ (k = true → wE Γ Φ a ρ1 Q) ∧ (k = false → wE Γ Φ b ρ1 Q)
  | .tup es => fun ρ Q => wEs Γ Φ es ρ fun xs ρ1 => ∃ ds, frzs xs = some ds ∧ Q (.d (.tuple ds)) ρ1
  | .lst es => fun ρ Q => wEs Γ Φ es ρ fun xs ρ1 => Q (.own xs) ρ1
  | .idx a b => fun ρ Q => wE Γ Φ a ρ fun x ρ1 => wE Γ Φ b ρ1 fun y ρ2 => ∃ k z, y = .d (.int k) ∧ x.item k = some (.d z) ∧ Q (.d z) ρ2
  | .slice a lo hi => fun ρ Q => wE Γ Φ a ρ fun x ρ1 => wO Γ Φ lo ρ1 fun l ρ2 => wO Γ Φ hi ρ2 fun h ρ3 => sliceO x l h fun z => Q z ρ3
  | .rev a => fun ρ Q => wE Γ Φ a ρ fun x ρ1 => revO x fun z => Q z ρ1
  | .callL f ss => fun ρ Q => ∃ fe xs as, Φ f = some fe ∧ fe.ow = none ∧ svs Γ ρ ss = some xs ∧ argTs xs = some as ∧ fe.fs as fun z _ => scalT z = true ∧ Q z ρ
  | .call f es => fun ρ Q => ∃ fe, Φ f = some fe ∧ (match fe.ow with
    | none => wEs Γ Φ es ρ fun xs ρ1 => ∃ as, argTs xs = some as ∧ fe.fs as fun z _ => Q z ρ1
    | some 0 => (match es with
      | .cons e es' => ∃ i, e.var? = some i ∧ (∃ x, ρ[i]? = some (some x)) ∧ wEs Γ Φ es' ρ fun xs ρ1 => ∃ as ts, argTs xs = some as ∧ ρ1[i]? = some (some (.own ts)) ∧
          fe.fs (.own ts :: as) fun z news => ∃ x', news[0]? = some (some x') ∧ Q z (ρ1.set i (some x'))
      | .nil => False)
    | some _ => False)
  | .callK f ks es => fun ρ Q => ∃ fe, Φ f = some fe ∧ fe.ow = none ∧ ks ∈ fe.kw ∧ wEs Γ Φ es ρ fun xs ρ1 => ∃ as bs, argTs xs = some as ∧ kperm ks as fe.ps = some bs ∧ fe.fs bs fun z _ => Q z ρ1
  | .blt1 b e => fun ρ Q => wE Γ Φ e ρ fun x ρ1 => bltO b [x] fun z => Q z ρ1
  | .bltv b e => fun ρ Q => (match e.sim? with
      | some s => simR Γ s
      | none => wE Γ Φ e) ρ fun x ρ1 => bltO b [x] fun z => Q z ρ1
  | .blt2 b e e2 => fun ρ Q => wE Γ Φ e ρ fun x ρ1 => wE Γ Φ e2 ρ1 fun y ρ2 => bltO b [x, y] fun z => Q z ρ2
  | .sortset a => fun ρ Q => (match a.sim? with
      | some s => simR Γ s
      | none => wE Γ Φ a) ρ fun x ρ1 => ∃ d xs ns, x.frz = some d ∧ PyData.itemsOf d = some xs ∧ intsOf xs = some ns ∧ ns.length < 64 ∧ ∀ ms, isSortSet ns ms → Q (.own (ms.map fun n => .d (.int n))) ρ1
  | .lrng t a b => fun ρ Q => wO Γ Φ a ρ fun lo ρ1 => wE Γ Φ b ρ1 fun y ρ2 => ∃ j, y = .d (.int j) ∧ -(2 ^ 62) ≤ lo.getD 0 ∧ lo.getD 0 < 2 ^ 62 ∧ -(2 ^ 62) ≤ j ∧ j < 2 ^ 62 ∧ (j - lo.getD 0).toNat ≤ 2 ^ 24 ∧
      Q (if t then .d (.tuple ((List.range (j - lo.getD 0).toNat).map fun (k : Nat) => .int (lo.getD 0 + k))) else .own ((List.range (j - lo.getD 0).toNat).map fun (k : Nat) => .d (.int (lo.getD 0 + k)))) ρ2
  | .lc elt tg it c vs => fun ρ Q => wI Γ Φ it ρ fun items ρ1 => ∃ I : Nat → List Tv → Env' → Prop, I 0 [] (wipeR ρ1 vs) ∧
      (∀ k x acc ρ2, items[k]? = some x → I k acc ρ2 → wTg tg x ρ2 fun ρ3 => wC Γ Φ c ρ3 fun b ρ4 =>
        (b = true → wE Γ Φ elt ρ4 fun y ρ5 => acc.length < sizeLine ∧ I (k + 1) (acc ++ [y]) (wipeR ρ5 vs)) ∧ (b = false → I (k + 1) acc (wipeR ρ4 vs))) ∧
      ∀ acc ρ2, I items.length acc ρ2 → Q (.own acc) (restR ρ1 ρ2 vs)
  | .pop i a => fun ρ Q => (∃ ts, ρ[i]? = some (some (.own ts))) ∧ wE Γ Φ a ρ fun y ρ1 => ∃ ts k x, y = .d (.int k) ∧ ρ1[i]? = some (some (.own ts)) ∧ 0 ≤ k ∧ k < 2 ^ 63 ∧ ts[k.toNat]? = some x ∧ Q x (ρ1.set i (some (.own (ts.eraseIdx k.toNat))))
  | .index a b => fun ρ Q => wE Γ Φ a ρ fun x ρ1 => ∃ ns : List Int, x = .d (.tuple (ns.map .int)) ∧ wE Γ Φ b ρ1 fun y ρ2 => ∃ k : Int, y = .d (.int k) ∧ k ∈ ns ∧ Q (.d (.int (ns.idxOf k : Nat))) ρ2
def wEs (Γ : Gam) (Φ : Phi) : EL → WL
  | .nil => fun ρ Q => Q [] ρ
  | .cons e es => fun ρ Q => wE Γ Φ e ρ fun x ρ1 => wEs Γ Φ es ρ1 fun xs ρ2 => Q (x :: xs) ρ2
def wAnd (Γ : Gam) (Φ : Phi) : EL → WE
  | .nil => fun _ _ => False
  | .cons e es => fun ρ Q => wE Γ Φ e ρ fun x ρ1 => ∃ b, x = .d (.bool b) ∧ (match es with
    | .nil => Q (.d (.bool b)) ρ1
    | es => (b = true → wAnd Γ Φ es ρ1 Q) ∧ (b = false → Q (.d (.bool false)) ρ1))
def wOr (Γ : Gam) (Φ : Phi) : EL → WE
  | .nil => fun _ _ => False
  | .cons e es => fun ρ Q => wE Γ Φ e ρ fun x ρ1 => ∃ b, x = .d (.bool b) ∧ (match es with
    | .nil => Q (.d (.bool b)) ρ1
    | es => (b = true → Q (.d (.bool true)) ρ1) ∧ (b = false → wOr Γ Φ es ρ1 Q))
def wO (Γ : Gam) (Φ : Phi) : OE → WO
  | .non => fun ρ Q => Q none ρ
  | .som e => fun ρ Q => wE Γ Φ e ρ fun x ρ1 => ∃ k, x = .d (.int k) ∧ Q (some k) ρ1
def wC (Γ : Gam) (Φ : Phi) : OE → Env' → (Bool → Env' → Prop) → Prop
  | .non => fun ρ Q => Q true ρ
  | .som e => fun ρ Q => wE Γ Φ e ρ fun x ρ1 => ∃ k, x = .d (.bool k) ∧ Q k ρ1
def wI (Γ : Gam) (Φ : Phi) : It → WI
  | .seq a => fun ρ Q => wE Γ Φ a ρ fun x ρ1 => ∃ d xs, x.frz = some d ∧ PyData.itemsOf d = some xs ∧ Q xs ρ1
  | .rng a b => fun ρ Q => wO Γ Φ a ρ fun lo ρ1 => wE Γ Φ b ρ1 fun y ρ2 => ∃ j, y = .d (.int j) ∧ -(2 ^ 62) ≤ lo.getD 0 ∧ lo.getD 0 < 2 ^ 62 ∧ -(2 ^ 62) ≤ j ∧ j < 2 ^ 62 ∧
      Q ((List.range (j - lo.getD 0).toNat).map fun (k : Nat) => .int (lo.getD 0 + k)) ρ2
  | .enum a => fun ρ Q => wE Γ Φ a ρ fun x ρ1 => ∃ d xs, x.frz = some d ∧ PyData.itemsOf d = some xs ∧ Q (xs.mapIdx fun k x => .tuple [.int k, x]) ρ1
  | .zip a b => fun ρ Q => wE Γ Φ a ρ fun x ρ1 => wE Γ Φ b ρ1 fun y ρ2 => ∃ d e xs ys, x.frz = some d ∧ y.frz = some e ∧ PyData.itemsOf d = some xs ∧ PyData.itemsOf e = some ys ∧
      Q (List.zipWith (fun p q => .tuple [p, q]) xs ys) ρ2
end

structure DE where
  nx : Env' → Prop
  rt : Tv → Env' → Prop
  bk : Env' → Prop := fun _ => False
  ct : Env' → Prop := fun _ => False
abbrev WS := DE → Env' → Prop
mutual
def wS (Γ : Gam) (Φ : Phi) : S → WS
  | .set i e => fun D ρ => wE Γ Φ e ρ fun x ρ1 => i < ρ1.length ∧ D.nx (ρ1.set i (some x))
  | .unp tg e => fun D ρ => wE Γ Φ e ρ fun x ρ1 => ∃ d, x.frz = some d ∧ wTg tg d ρ1 D.nx
  | .par is es => fun D ρ => wEs Γ Φ es ρ fun xs ρ1 => xs.length = is.length ∧ is.Nodup ∧ (∀ i ∈ is, i < ρ1.length) ∧ D.nx ((is.zip xs).foldl (fun r p => r.set p.1 (some p.2)) ρ1)
  | .ix1 i k e => fun D ρ => wE Γ Φ e ρ fun y ρ1 => ∃ ts n j, ρ1[i]? = some (some (.own ts)) ∧ sv Γ ρ1 k = some (.d (.int n)) ∧ ixN ts.length n = some j ∧ D.nx (ρ1.set i (some (.own (ts.set j y))))
  | .ix2 i k1 k e => fun D ρ => wE Γ Φ e ρ fun y ρ1 => ∃ ts n1 j1 us n j, ρ1[i]? = some (some (.own ts)) ∧ sv Γ ρ1 k1 = some (.d (.int n1)) ∧ ixN ts.length n1 = some j1 ∧ ts[j1]? = some (.own us) ∧
      sv Γ ρ1 k = some (.d (.int n)) ∧ ixN us.length n = some j ∧ D.nx (ρ1.set i (some (.own (ts.set j1 (.own (us.set j y))))))
  | .ixp i k1 k2 es => fun D ρ => wEs Γ Φ es ρ fun xs ρ1 => ∃ y1 y2 ts n1 j1 n2 j2, xs = [.d y1, .d y2] ∧ ρ1[i]? = some (some (.own ts)) ∧ sv Γ ρ1 k1 = some (.d (.int n1)) ∧ ixN ts.length n1 = some j1 ∧
      sv Γ (ρ1.set i (some (.own (ts.set j1 (.d y1))))) k2 = some (.d (.int n2)) ∧ ixN ts.length n2 = some j2 ∧ D.nx (ρ1.set i (some (.own ((ts.set j1 (.d y1)).set j2 (.d y2)))))
  | .ixe i a e => fun D ρ => wE Γ Φ e ρ fun y ρ1 => ∃ d, y = .d d ∧ (∃ ts, ρ1[i]? = some (some (.own ts))) ∧ wE Γ Φ a ρ1 fun z ρ2 => ∃ n ts j, z = .d (.int n) ∧ ρ2[i]? = some (some (.own ts)) ∧ ixN ts.length n = some j ∧ D.nx (ρ2.set i (some (.own (ts.set j (.d d)))))
  | .app i e => fun D ρ => (∃ ts, ρ[i]? = some (some (.own ts))) ∧ wE Γ Φ e ρ fun y ρ1 => ∃ ts, ρ1[i]? = some (some (.own ts)) ∧ ts.length < sizeLine ∧ D.nx (ρ1.set i (some (.own (ts ++ [y]))))
  | .ext i e => fun D ρ => (∃ ts, ρ[i]? = some (some (.own ts))) ∧ wE Γ Φ e ρ fun y ρ1 => ∃ ts xs, ρ1[i]? = some (some (.own ts)) ∧ y.frz = some (.list xs) ∧ ts.length + xs.length ≤ sizeLine ∧ D.nx (ρ1.set i (some (.own (ts ++ xs.map .d))))
  | .expr e => fun D ρ => wE Γ Φ e ρ fun _ ρ1 => D.nx ρ1
  | .ret e => fun D ρ => wE Γ Φ e ρ fun x ρ1 => D.rt x ρ1
  | .retv i => fun D ρ => ∃ x, ρ[i]? = some (some x) ∧ D.rt x (ρ.set i none)
  | .retN => fun D ρ => D.rt (.d .none) ρ
  | .ite c a b => fun D ρ => wE Γ Φ c ρ fun x ρ1 => ∃ k, x = .d (.bool k) ∧ (k = true → wSL Γ Φ a D ρ1) ∧ (k = false → wSL Γ Φ b D ρ1)
  | .for_ tg it body er => fun D ρ => wI Γ Φ it ρ fun items ρ1 => ∃ I : Nat → Env' → Prop, I 0 ρ1 ∧
      (∀ k x ρ2, items[k]? = some x → I k ρ2 → wTg tg x ρ2 fun ρ3 => wSL Γ Φ body { nx := fun ρ4 => I (k + 1) (wipeR ρ4 er), ct := fun ρ4 => I (k + 1) (wipeR ρ4 er), bk := fun ρ4 => D.nx (wipeR ρ4 er), rt := D.rt } ρ3) ∧
      ∀ ρ2, I items.length ρ2 → D.nx ρ2
  | .while_ c body er => fun D ρ => ∃ (I : Env' → Prop) (μ : Env' → Nat), I ρ ∧ ∀ ρ1, I ρ1 → wE Γ Φ c ρ1 fun x ρ2 => ∃ k, x = .d (.bool k) ∧
      (k = true → wSL Γ Φ body { nx := fun ρ4 => I (wipeR ρ4 er) ∧ μ (wipeR ρ4 er) < μ ρ1, ct := fun ρ4 => I (wipeR ρ4 er) ∧ μ (wipeR ρ4 er) < μ ρ1, bk := fun ρ4 => D.nx (wipeR ρ4 er), rt := D.rt } ρ2) ∧ (k = false → D.nx ρ2)
  | .pass => fun D ρ => D.nx ρ
  | .brk => fun D ρ => D.bk ρ
  | .cont => fun D ρ => D.ct ρ
  | .never => fun _ _ => False
def wSL (Γ : Gam) (Φ : Phi) : SL → WS
  | .nil => fun D ρ => D.nx ρ
  | .cons s ss => fun D ρ => wS Γ Φ s { D with nx := fun ρ1 => wSL Γ Φ ss D ρ1 } ρ
end

/-- a def by its body: n parameters, N names -/
def fsOf (Γ : Gam) (Φ : Phi) (n N : Nat) (b : SL) : FS := fun xs Q => xs.length = n ∧
  wSL Γ Φ b { nx := fun ρ => Q (.d .none) ρ, rt := fun x ρ => Q x ρ } (xs.map some ++ List.replicate (N - n) none)
end Tr
set_option Elab.async false
set_option linter.all false
set_option maxRecDepth 100000
set_option maxHeartbeats 1000000
/-! The tree layer, part 3: a text is one of the small language's; its readings are sound. -/
namespace Tr
open PySem PySem.Spec PyProof.Rows L2

def visB (sc : Scope) (x : Str) : Bool := match sc.names.lookup x with | some .local => true | some .cell => true | some .free => true | _ => false
def glB (sc : Scope) (x : Str) : Bool := match sc.names.lookup x with | some .globalImplicit => true | _ => false
def nmB (x : Str) : Bool := !(x == ("__debug__" : Str)) && !(x == ("__classdict__" : Str)) && !(x == ("__name__" : Str))
def plainE : Expr → Bool
  | .Starred .. => false
  | .Set .. => false
  | .Slice .. => false
  | _ => true
theorem starEach_plain {e : Expr} {es : List Expr} {env : Env} (h : plainE e = true) : starEach (e :: es) env = (false, eval e env) :: starEach es env := by
  cases e <;> first | rfl | cases h
theorem folded_plain {e : Expr} {env : Env} (h : plainE e = true) : ∀ x, foldedSetIterable e env x = pure x := by
  intro x
  cases e <;> first | rfl | cases h
theorem behind_plain {e : Expr} {op : CmpOp} (h : plainE e = true) : behindInMarks op e = false := by
  cases e <;> first | rfl | cases h
theorem ix_plain {e : Expr} (h : plainE e = true) : PlainIx e := by
  intro o i
  cases e <;> first | rfl | cases h

def bnames : List Str := ["abs", "int", "str", "repr", "tuple", "list", "sorted", "sum", "any", "all", "max", "min", "len", "range", "zip", "enumerate", "set", "isinstance", "bool"]
/-- what a body's context gives -/
structure Gd (Γ : Gam) (N : List Str) (sc : Scope) (X : Cx) : Prop where
  calm : X.calm = true
  nm : X.N = N
  nd : N.Nodup
  sc : X.env.scope = sc
  gd : X.A.guards = some []
  un : X.A.units + 200 < cLine
  bl : ∀ x ∈ bnames, X.mg x = none
  gl : ∀ x d, Γ x = some d → ∃ u v, X.mg x = some u ∧ RelV v u ∧ ∀ G, Dq G v d
section
variable {Γ : Gam} {N : List Str} {sc : Scope} {X : Cx}
theorem Gd.vis (g : Gd Γ N sc X) {x : Str} (h : visB sc x = true) : Vis X.env.scope x := by
  rw [g.sc]
  unfold visB at h
  unfold Vis
  split at h <;> first | exact .inl (by assumption) | exact .inr (.inl (by assumption)) | exact .inr (.inr (by assumption)) | cases h
theorem Gd.glo (g : Gd Γ N sc X) {x : Str} (h : glB sc x = true) : Gl X x := by
  show X.env.scope.names.lookup x = some .globalImplicit
  rw [g.sc]
  unfold glB at h
  split at h
  · assumption
  · cases h
theorem nm1 {x : Str} (h : nmB x = true) : (x == ("__debug__" : Str)) = false := by
  unfold nmB at h
  simp only [Bool.and_eq_true, Bool.not_eq_true'] at h
  exact h.1.1
theorem nm2 {x : Str} (h : nmB x = true) : (x == ("__classdict__" : Str)) = false := by
  unfold nmB at h
  simp only [Bool.and_eq_true, Bool.not_eq_true'] at h
  exact h.1.2
theorem nm3 {x : Str} (h : nmB x = true) : x ≠ "__name__" := by
  unfold nmB at h
  simp only [Bool.and_eq_true, Bool.not_eq_true'] at h
  intro e
  rw [e] at h
  exact absurd h.2 (by decide)

/-! ### simple expressions -/
def okSE (N : List Str) (sc : Scope) : SE → Expr → Bool
  | .var i, e => (match e with | .Name x _ => decide (N[i]? = some x) && visB sc x && nmB x | _ => false)
  | .int n, e => (match e with | .Constant (.int m) _ _ => decide (m = n) | _ => false)
  | .str z, e => (match e with | .Constant (.str w) _ _ => decide (w = z) | _ => false)
  | .bl b, e => (match e with | .Constant (.bool c) _ _ => c == b | _ => false)
  | .non, e => (match e with | .Constant .none _ _ => true | _ => false)
  | .glob y, e => (match e with | .Name x _ => decide (x = y) && glB sc x && nmB x | _ => false)
  | .add a b, e => (match e with | .BinOp l .Add r _ => okSE N sc a l && okSE N sc b r | _ => false)
  | .sub a b, e => (match e with | .BinOp l .Sub r _ => okSE N sc a l && okSE N sc b r | _ => false)
  | .neg a, e => (match e with | .UnaryOp .USub l _ => okSE N sc a l | _ => false)
  | .idx a b, e => (match e with | .Subscript l r _ => okSE N sc a l && okSE N sc b r && plainE r | _ => false)
  | .len a, e => (match e with | .Call (.Name f _) [l] [] _ => decide (f = "len") && glB sc f && okSE N sc a l && plainE l | _ => false)

def liftS (K : PySem.W.Frag) (Γ : Gam) (s : SE) : TE := fun σ H R => ∃ F G ρ L x, Sta K F G H ρ σ L ∧ sv Γ ρ s = some x ∧ ∀ v M, OR K G H x v M → (∀ a ∈ M, a ∈ L) → R v H

theorem join_some {ρ : Env'} {i : Nat} {x : Tv} (h : (ρ[i]?).join = some x) : ρ[i]? = some (some x) := by
  cases e : ρ[i]? with
  | none => rw [e] at h; cases h
  | some o => rw [e] at h; cases o with
    | none => cases h
    | some y => cases h; rfl
theorem Dq.int_of {G : Hp} {v : V} {i : Int} (h : Dq G v (.int i)) : v = .int i := by cases h; rfl
theorem Dq.str_of {G : Hp} {v : V} {i : Str} (h : Dq G v (.str i)) : v = .str i := by cases h; rfl
theorem Dq.bl_of {G : Hp} {v : V} {i : Bool} (h : Dq G v (.bool i)) : v = .bl i := by cases h; rfl
theorem Dq.non_iff {G : Hp} {v : V} {d : PyData} (h : Dq G v d) : v = .non ↔ d = .none := by
  cases h <;> simp
theorem OR.dq {K : PySem.W.Frag} {G H : Hp} {v : V} {d : PyData} {M : List Addr} (h : OR K G H (.d d) v M) : Dq G v d ∧ M = [] := by
  cases h with
  | d h => exact ⟨h, rfl⟩
theorem atI_map {α β : Type} (f : α → β) {xs : List α} {k : Int} {y : β} (h : atI (xs.map f) k = some y) : ∃ x, atI xs k = some x ∧ f x = y := by
  unfold atI at *
  rw [List.length_map] at h
  cases e : ixN xs.length k with
  | none => rw [e] at h; cases h
  | some j =>
    rw [e] at h
    have h : (xs.map f)[j]? = some y := h
    rw [List.getElem?_map] at h
    cases e2 : xs[j]? with
    | none => rw [e2] at h; cases h
    | some x =>
      rw [e2] at h
      exact ⟨x, e2, Option.some.inj h⟩
/-- the item of what is read at k: by the heap -/
theorem item_at {K : PySem.W.Frag} {G H : Hp} {x z : Tv} {v : V} {M : List Addr} {k : Int} (g : Same G H) (r : OR K G H x v M) (h : x.item k = some z) :
    ∃ p vs u M', v = .ref p ∧ (SqL K H p vs ∨ SqT K H p vs) ∧ atI vs k = some u ∧ OR K G H z u M' ∧ ∀ a ∈ M', a ∈ M := by
  cases r with
  | d r =>
    cases r with
    | lst hs ha =>
      have h : (atI _ k).map Tv.d = some z := h
      cases e : atI _ k with
      | none => rw [e] at h; cases h
      | some y =>
        rw [e] at h; cases h
        unfold atI at e
        cases e1 : ixN _ k with
        | none => rw [e1] at e; cases e
        | some j =>
          rw [e1] at e
          obtain ⟨u, h1, h2⟩ := ha.get (i := j) e
          refine ⟨_, _, u, [], rfl, .inl (SqL.of (g _ _ hs)), ?_, .d h2, fun a ha => absurd ha (by simp)⟩
          unfold atI
          rw [ha.length, e1]
          exact h1
    | tup hs ha =>
      have h : (atI _ k).map Tv.d = some z := h
      cases e : atI _ k with
      | none => rw [e] at h; cases h
      | some y =>
        rw [e] at h; cases h
        unfold atI at e
        cases e1 : ixN _ k with
        | none => rw [e1] at e; cases e
        | some j =>
          rw [e1] at e
          obtain ⟨u, h1, h2⟩ := ha.get (i := j) e
          refine ⟨_, _, u, [], rfl, .inr (hs.grow g).sq, ?_, .d h2, fun a ha => absurd ha (by simp)⟩
          unfold atI
          rw [ha.length, e1]
          exact h1
    | _ => cases h
  | own hs hn ha =>
    have e : atI _ k = some z := h
    unfold atI at e
    cases e1 : ixN _ k with
    | none => rw [e1] at e; cases e
    | some j =>
      rw [e1] at e
      obtain ⟨u, M', h1, h2, h3⟩ := ha.get (i := j) e
      refine ⟨_, _, u, M', rfl, .inl (SqL.of hs), ?_, h2, fun a ha => List.mem_cons_of_mem _ (h3 a ha)⟩
      unfold atI
      rw [← ha.length, e1]
      exact h1
  | scr _ => cases h
theorem len_at {K : PySem.W.Frag} {G H : Hp} {x : Tv} {v : V} {M : List Addr} {n : Nat} (g : Same G H) (r : OR K G H x v M) (h : x.len = some n) :
    ∃ p vs, v = .ref p ∧ (SqL K H p vs ∨ SqT K H p vs) ∧ vs.length = n := by
  cases r with
  | d r =>
    cases r with
    | lst hs ha => cases h; exact ⟨_, _, rfl, .inl (SqL.of (g _ _ hs)), ha.length⟩
    | tup hs ha => cases h; exact ⟨_, _, rfl, .inr (hs.grow g).sq, ha.length⟩
    | _ => cases h
  | own hs hn ha => cases h; exact ⟨_, _, rfl, .inl (SqL.of hs), ha.length.symm⟩
  | scr hs => cases h; exact ⟨_, _, rfl, .inl (g.seq hs), by simp⟩

theorem sv_add {ρ : Env'} {a b : SE} {x : Tv} (h : sv Γ ρ (.add a b) = some x) : ∃ i j, sv Γ ρ a = some (.d (.int i)) ∧ sv Γ ρ b = some (.d (.int j)) ∧ x = .d (.int (i + j)) := by
  rw [sv] at h
  split at h
  · rename_i i j e1 e2; exact ⟨i, j, e1, e2, (Option.some.inj h).symm⟩
  · cases h
theorem sv_sub {ρ : Env'} {a b : SE} {x : Tv} (h : sv Γ ρ (.sub a b) = some x) : ∃ i j, sv Γ ρ a = some (.d (.int i)) ∧ sv Γ ρ b = some (.d (.int j)) ∧ x = .d (.int (i - j)) := by
  rw [sv] at h
  split at h
  · rename_i i j e1 e2; exact ⟨i, j, e1, e2, (Option.some.inj h).symm⟩
  · cases h
theorem sv_neg {ρ : Env'} {a : SE} {x : Tv} (h : sv Γ ρ (.neg a) = some x) : ∃ i, sv Γ ρ a = some (.d (.int i)) ∧ x = .d (.int (-i)) := by
  rw [sv] at h
  split at h
  · rename_i i e1; exact ⟨i, e1, (Option.some.inj h).symm⟩
  · cases h
theorem sv_idx {ρ : Env'} {a b : SE} {z : Tv} (h : sv Γ ρ (.idx a b) = some z) : ∃ x k, sv Γ ρ a = some x ∧ sv Γ ρ b = some (.d (.int k)) ∧ x.item k = some z := by
  rw [sv] at h
  split at h
  · rename_i x k e1 e2; exact ⟨x, k, e1, e2, h⟩
  · cases h
theorem sv_len {ρ : Env'} {a : SE} {z : Tv} (h : sv Γ ρ (.len a) = some z) : ∃ x n, sv Γ ρ a = some x ∧ x.len = some n ∧ z = .d (.int n) := by
  rw [sv] at h
  split at h
  · rename_i x e1
    cases e : x.len with
    | none => rw [e] at h; cases h
    | some n => rw [e] at h; exact ⟨x, n, e1, e, (Option.some.inj h).symm⟩
  · cases h
theorem sv_glob {ρ : Env'} {y : Str} {z : Tv} (h : sv Γ ρ (.glob y) = some z) : ∃ d, Γ y = some d ∧ z = .d d := by
  rw [sv] at h
  cases e : Γ y with
  | none => rw [e] at h; cases h
  | some d => rw [e] at h; exact ⟨d, rfl, (Option.some.inj h).symm⟩

/-- simple expressions are read as they say -/
theorem se_ok (g : Gd Γ N sc X) : ∀ (s : SE) (e : Expr), okSE N sc s e = true → PE X e (liftS X.K Γ s)
  | .var i, e, h => by
    cases e with
    | Name x pos =>
      have h : (decide (N[i]? = some x) && visB sc x && nmB x) = true := h
      simp only [Bool.and_eq_true, decide_eq_true_eq] at h
      refine PE.imp (pe_var (by rw [g.nm]; exact h.1.1) (g.vis h.1.2) (nm1 h.2) (nm2 h.2)) fun σ H R ⟨F, G, ρ, L, x, s, e, k⟩ => ?_
      obtain ⟨v, P, M, S, e1, e2, r, _⟩ := s.sr.at (join_some e)
      exact ⟨v, e2, k v M r fun a ha => by rw [e1]; simp [ha]⟩
    | _ => exact nomatch (show false = true from h)
  | .int n, e, h => by
    cases e with
    | Constant c j pos =>
      cases c with
      | int m =>
        have h : decide (m = n) = true := h
        cases of_decide_eq_true h
        exact PE.imp pe_int fun σ H R ⟨F, G, ρ, L, x, s, e, k⟩ => by cases e; exact k _ [] (.d (.int _)) (fun a ha => absurd ha (by simp))
      | _ => exact nomatch (show false = true from h)
    | _ => exact nomatch (show false = true from h)
  | .str n, e, h => by
    cases e with
    | Constant c j pos =>
      cases c with
      | str m =>
        have h : decide (m = n) = true := h
        cases of_decide_eq_true h
        exact PE.imp pe_str fun σ H R ⟨F, G, ρ, L, x, s, e, k⟩ => by cases e; exact k _ [] (.d (.str _)) (fun a ha => absurd ha (by simp))
      | _ => exact nomatch (show false = true from h)
    | _ => exact nomatch (show false = true from h)
  | .bl n, e, h => by
    cases e with
    | Constant c j pos =>
      cases c with
      | bool m =>
        have h : (m == n) = true := h
        have e : m = n := by simpa using h
        cases e
        exact PE.imp pe_bl fun σ H R ⟨F, G, ρ, L, x, s, e, k⟩ => by cases e; exact k _ [] (.d (.bl _)) (fun a ha => absurd ha (by simp))
      | _ => exact nomatch (show false = true from h)
    | _ => exact nomatch (show false = true from h)
  | .non, e, h => by
    cases e with
    | Constant c j pos =>
      cases c with
      | none => exact PE.imp pe_non fun σ H R ⟨F, G, ρ, L, x, s, e, k⟩ => by cases e; exact k _ [] (.d .non) (fun a ha => absurd ha (by simp))
      | _ => exact nomatch (show false = true from h)
    | _ => exact nomatch (show false = true from h)
  | .glob y, e, h => by
    cases e with
    | Name x pos =>
      have h : (decide (x = y) && glB sc x && nmB x) = true := h
      simp only [Bool.and_eq_true, decide_eq_true_eq] at h
      obtain ⟨⟨rfl, h2⟩, h3⟩ := h
      refine ⟨fun pins s σ H R I ⟨F, G, ρ, L, z, st, e, k⟩ => ?_⟩
      obtain ⟨d, e1, rfl⟩ := sv_glob e
      obtain ⟨u, v, hm, r, dq⟩ := g.gl _ _ e1
      exact (pe_glob (g.glo h2) hm r (nm1 h3)).run pins s σ H R I (k v [] (.d (dq G)) fun a ha => absurd ha (by simp))
    | _ => exact nomatch (show false = true from h)
  | .add a b, e, h => by
    cases e with
    | BinOp l o r pos =>
      cases o with
      | Add =>
        have h : (okSE N sc a l && okSE N sc b r) = true := h
        rw [Bool.and_eq_true] at h
        refine PE.imp (pe_op op_add (se_ok g a l h.1) (se_ok g b r h.2)) fun σ H R ⟨F, G, ρ, L, x, s, e, k⟩ => ?_
        obtain ⟨i, j, e1, e2, rfl⟩ := sv_add e
        refine ⟨F, G, ρ, L, _, s, e1, fun v M r1 _ => ⟨F, G, ρ, L, _, s, e2, fun u M' r2 _ => ⟨i, j, r1.dq.1.int_of, r2.dq.1.int_of, k _ [] (.d (.int _)) fun a ha => absurd ha (by simp)⟩⟩⟩
      | _ => exact nomatch (show false = true from h)
    | _ => exact nomatch (show false = true from h)
  | .sub a b, e, h => by
    cases e with
    | BinOp l o r pos =>
      cases o with
      | Sub =>
        have h : (okSE N sc a l && okSE N sc b r) = true := h
        rw [Bool.and_eq_true] at h
        refine PE.imp (pe_op op_sub (se_ok g a l h.1) (se_ok g b r h.2)) fun σ H R ⟨F, G, ρ, L, x, s, e, k⟩ => ?_
        obtain ⟨i, j, e1, e2, rfl⟩ := sv_sub e
        refine ⟨F, G, ρ, L, _, s, e1, fun v M r1 _ => ⟨F, G, ρ, L, _, s, e2, fun u M' r2 _ => ⟨i, j, r1.dq.1.int_of, r2.dq.1.int_of, k _ [] (.d (.int _)) fun a ha => absurd ha (by simp)⟩⟩⟩
      | _ => exact nomatch (show false = true from h)
    | _ => exact nomatch (show false = true from h)
  | .neg a, e, h => by
    cases e with
    | UnaryOp o l pos =>
      cases o with
      | USub =>
        have h : okSE N sc a l = true := h
        refine PE.imp (pe_un un_neg (se_ok g a l h)) fun σ H R ⟨F, G, ρ, L, x, s, e, k⟩ => ?_
        obtain ⟨i, e1, rfl⟩ := sv_neg e
        exact ⟨F, G, ρ, L, _, s, e1, fun v M r1 _ => ⟨i, r1.dq.1.int_of, k _ [] (.d (.int _)) fun a ha => absurd ha (by simp)⟩⟩
      | _ => exact nomatch (show false = true from h)
    | _ => exact nomatch (show false = true from h)
  | .idx a b, e, h => by
    cases e with
    | Subscript l r pos =>
      have h : (okSE N sc a l && okSE N sc b r && plainE r) = true := h
      simp only [Bool.and_eq_true] at h
      refine PE.imp (pe_ix (ix_list.or ix_tup) (se_ok g a l h.1.1) (se_ok g b r h.1.2) (ix_plain h.2)) fun σ H R ⟨F, G, ρ, L, z, s, e, k⟩ => ?_
      obtain ⟨x, n, e1, e2, e3⟩ := sv_idx e
      refine ⟨F, G, ρ, L, _, s, e1, fun v M r1 h1 => ⟨F, G, ρ, L, _, s, e2, fun u M' r2 _ => ?_⟩⟩
      obtain ⟨p, vs, w, M2, rfl, hq, hat, r3, h3⟩ := item_at s.gh r1 e3
      have q := k w M2 r3 fun a ha => h1 a (h3 a ha)
      rcases hq with hq | hq
      · exact .inl ⟨p, vs, n, w, rfl, r2.dq.1.int_of, hq, hat, q⟩
      · exact .inr ⟨p, vs, n, w, rfl, r2.dq.1.int_of, hq, hat, q⟩
    | _ => exact nomatch (show false = true from h)
  | .len a, e, h => by
    cases e with
    | Call f args kws pos =>
      cases f with
      | Name x px =>
        match args, kws, h with
        | [l], [], h =>
          have h : (decide (x = "len") && glB sc x && okSE N sc a l && plainE l) = true := h
          simp only [Bool.and_eq_true, decide_eq_true_eq] at h
          obtain ⟨⟨⟨rfl, h2⟩, h3⟩, h4⟩ := h
          refine PE.imp (pe_callB call_len_seq (g.glo h2) (g.bl _ (by decide)) PySem.boot_len (pa_cons (se_ok g a l h3) pa_nil (starEach_plain h4)) (by decide) (by decide) (starEach_plain h4) rfl) fun σ H R ⟨F, G, ρ, L, z, s, e, k⟩ => ?_
          obtain ⟨y, n, e1, e2, rfl⟩ := sv_len e
          refine ⟨F, G, ρ, L, _, s, e1, fun v M r1 h1 => ?_⟩
          obtain ⟨p, vs, rfl, hq, hl⟩ := len_at s.gh r1 e2
          exact ⟨p, vs, rfl, hq, by rw [hl]; exact k _ [] (.d (.int _)) fun a ha => absurd ha (by simp)⟩
      | _ => cases args <;> exact nomatch (show false = true from h)
    | _ => exact nomatch (show false = true from h)
end
end Tr
set_option Elab.async false
set_option linter.all false
set_option maxRecDepth 100000
set_option maxHeartbeats 1000000
/-! The tree layer, part 4: the readings, one operation after another. -/
namespace Tr
open PySem PySem.Spec PyProof.Rows L2
section
variable {K : PySem.W.Frag} {F G H : Hp} {σ : L2.St} {ρ : Env'} {L M : List Addr} {Q : Tv → Env' → Prop} {R : V → Hp → Prop}

def Kont (K : PySem.W.Frag) (F G : Hp) (σ : L2.St) (Q : Tv → Env' → Prop) (R : V → Hp → Prop) : Prop :=
  ∀ x v ρ' G' H' L' M, Aft K F G G' H' ρ' σ L' → Val K F G' H' L' x v M → Q x ρ' → R v H'
theorem Kont.step {G1 H1 : Hp} {ρ1 : Env'} {L1 : List Addr} (k : Kont K F G σ Q R) (a : Aft K F G G1 H1 ρ1 σ L1) : Kont K F G1 σ Q R :=
  fun x v ρ' G' H' L' M b q h => k x v ρ' G' H' L' M (a.trans b) q h
theorem Kont.data (k : Kont K F G σ Q R) (s : Sta K F G H ρ σ L) {v : V} {d : PyData} (h : Dq G v d) (q : Q (.d d) ρ) : R v H := k _ _ _ _ _ _ _ (Aft.refl s) (Val.pure h) q
theorem Kont.tup (k : Kont K F G σ Q R) (s : Sta K F G H ρ σ L) {vs : List V} {ds : List PyData} (h : DqAll G vs ds) (q : Q (.d (.tuple ds)) ρ) : NewT R H vs := fun p o hp hn => by
  have a := s.laid (o := .frz o (.tup vs)) hp
  exact k _ _ _ _ _ _ _ a (Val.pure (.tup ⟨o, upd_same, hn⟩ (h.grow a.gg))) q
theorem Kont.lst (k : Kont K F G σ Q R) (s : Sta K F G H ρ σ L) {p : Addr} {vs : List V} {xs : List Tv} (hp : H p = none) (h : ORs K G H xs vs M) (nd : M.Nodup) (fr : ∀ a ∈ M, F a = none) (ap : ∀ a ∈ M, a ∉ L) (q : Q (.own xs) ρ) :
    R (.ref p) (upd H p (.lst vs)) := by
  have a := s.made (o := .lst vs) hp
  have ne : ∀ a ∈ M, a ≠ p := fun a ha z => by
    obtain ⟨⟨x, hx⟩, _⟩ := h.there a ha
    rw [z, hp] at hx
    cases hx
  refine k (.own xs) (.ref p) ρ G _ L (p :: M) a ⟨.own upd_same (s.gh.free hp) (h.step (Same.refl _) (fun a ha => upd_ne (ne a ha)) fun a ha => (h.there a ha).2), ?_, fun b hb => ?_, fun b hb => ?_⟩ q
  · exact List.nodup_cons.mpr ⟨fun hp' => ne p hp' rfl, nd⟩
  · rcases List.mem_cons.mp hb with e | hb
    · rw [e]; exact s.fh.free hp
    · exact fr b hb
  · rcases List.mem_cons.mp hb with e | hb
    · rw [e]
      intro hl
      obtain ⟨⟨x, hx⟩, _⟩ := s.sr.there p hl
      rw [hp] at hx
      cases hx
    · exact ap b hb
theorem ors_data : ∀ {vs : List V} {ds : List PyData}, DqAll G vs ds → ORs K G H (ds.map .d) vs []
  | _, _, .nil => .nil
  | _, _, .cons h t => by
    have := ORs.cons (K := K) (H := H) (OR.d h) (ors_data t)
    simpa using this
theorem Kont.lstD (k : Kont K F G σ Q R) (s : Sta K F G H ρ σ L) {p : Addr} {vs : List V} {ds : List PyData} (hp : H p = none) (h : DqAll G vs ds) (q : Q (.own (ds.map .d)) ρ) : R (.ref p) (upd H p (.lst vs)) :=
  k.lst s hp (ors_data h) List.nodup_nil (fun _ z => absurd z (by simp)) (fun _ z => absurd z (by simp)) q

/-- one value has come -/
def One (K : PySem.W.Frag) (σ : L2.St) (B : Tv → Env' → (Tv → Env' → Prop) → Prop) (v : V) (H : Hp) (R : V → Hp → Prop) : Prop :=
  ∃ F G ρ L x M Q, Sta K F G H ρ σ L ∧ Val K F G H L x v M ∧ B x ρ Q ∧ Kont K F G σ Q R
theorem one_of {w : WE} {B : Tv → Env' → (Tv → Env' → Prop) → Prop} {r : V → Hp → VK → Prop} (h : lift K (fun ρ Q => w ρ fun x ρ1 => B x ρ1 Q) σ H R) (k : ∀ v H1, One K σ B v H1 R → r v H1 R) : lift K w σ H fun v H1 => r v H1 R := by
  obtain ⟨F, G, ρ, L, Q, s, hw, kt⟩ := h
  exact ⟨F, G, ρ, L, _, s, hw, fun x v ρ' G' H' L' M a q hb => k v H' ⟨F, G', ρ', L', x, M, Q, a.st, q, hb, Kont.step kt a⟩⟩
/-- two values have come -/
def Two (K : PySem.W.Frag) (σ : L2.St) (B : Tv → Tv → Env' → (Tv → Env' → Prop) → Prop) (v u : V) (H : Hp) (R : V → Hp → Prop) : Prop :=
  ∃ F G ρ L x y M N Q, Sta K F G H ρ σ L ∧ Val K F G H L x v M ∧ Val K F G H L y u N ∧ (∀ a ∈ N, a ∉ M) ∧ B x y ρ Q ∧ Kont K F G σ Q R
theorem two_of {w w2 : WE} {B : Tv → Tv → Env' → (Tv → Env' → Prop) → Prop} {r : R2} (h : lift K (fun ρ Q => w ρ fun x ρ1 => w2 ρ1 fun y ρ2 => B x y ρ2 Q) σ H R) (k : ∀ v u H2, Two K σ B v u H2 R → r v u H2 R) :
    tOp r (lift K w) (lift K w2) σ H R := by
  obtain ⟨F, G, ρ, L, Q, s, hw, kt⟩ := h
  refine ⟨F, G, ρ, L, _, s, hw, fun x v ρ' G' H' L' M a q hb => ⟨Tr.hold F H' M, G', ρ', L', _, a.st.hold q, hb, fun y u ρ2 G2 H2 L2 N b q2 hc => ?_⟩⟩
  obtain ⟨b1, q1⟩ := Aft.held q b
  obtain ⟨q2', ap⟩ := held_apart q q2
  exact k v u H2 ⟨F, G2, ρ2, L2, x, y, M, N, Q, b1.st, q1, q2', ap, hc, Kont.step kt (a.trans b1)⟩

/-- one value frozen -/
theorem One.frz {x : Tv} {v : V} {d : PyData} (s : Sta K F G H ρ σ L) (q : Val K F G H L x v M) (e : x.frz = some d) : ∃ G', Aft K F G G' H ρ σ L ∧ Dq G' v d :=
  ⟨_, s.frozen q e⟩
theorem Val.after {x y : Tv} {v u : V} {N : List Addr} (s : Sta K F G H ρ σ L) (q : Val K F G H L x v M) (q2 : Val K F G H L y u N) (ap : ∀ a ∈ N, a ∉ M) : Val K F (freeze G H M) H L y u N := by
  refine ⟨q2.r.step (freeze_grow fun a ha => (q.r.there a ha).2) (fun _ _ => rfl) fun a ha => ?_, q2.nd, q2.fr, q2.ap⟩
  rw [freeze_out (ap a ha)]
  exact (q2.r.there a ha).2
theorem Two.frz {x y : Tv} {v u : V} {d e : PyData} {N : List Addr} (s : Sta K F G H ρ σ L) (q : Val K F G H L x v M) (q2 : Val K F G H L y u N) (ap : ∀ a ∈ N, a ∉ M) (hd : x.frz = some d) (he : y.frz = some e) :
    ∃ G', Aft K F G G' H ρ σ L ∧ Dq G' v d ∧ Dq G' u e := by
  obtain ⟨a, h1⟩ := s.frozen q hd
  obtain ⟨b, h2⟩ := a.st.frozen (Val.after s q q2 ap) he
  exact ⟨_, a.trans b, h1.grow b.gg, h2⟩
theorem Dq.lst_of {v : V} {ds : List PyData} (h : Dq G v (.list ds)) : ∃ a vs, v = .ref a ∧ G a = some (.lst vs) ∧ DqAll G vs ds := by
  cases h with
  | lst h1 h2 => exact ⟨_, _, rfl, h1, h2⟩
theorem Dq.tup_of {v : V} {ds : List PyData} (h : Dq G v (.tuple ds)) : ∃ a vs, v = .ref a ∧ TupG G a vs ∧ DqAll G vs ds := by
  cases h with
  | tup h1 h2 => exact ⟨_, _, rfl, h1, h2⟩
theorem Val.int {x : PyData} {v : V} {i : Int} (q : Val K F G H L (.d (.int i)) v M) : v = .int i := q.r.dq.1.int_of
end

/-! ### the operators -/
section
variable {Γ : Gam} {N : List Str} {sc : Scope} {X : Cx} {l r : Expr} {pos : Pos} {w1 w2 : WE}
def oper : BO → Operator
  | .add => .Add | .sub => .Sub | .mul => .Mult | .fdiv => .FloorDiv | .mod => .Mod | .pow => .Pow

theorem DqAll.append {G : Hp} : ∀ {vs us : List V} {xs ys : List PyData}, DqAll G vs xs → DqAll G us ys → DqAll G (vs ++ us) (xs ++ ys)
  | _, _, _, _, .nil, h => h
  | _, _, _, _, .cons a t, h => .cons a (DqAll.append t h)
theorem DqAll.rep {G : Hp} {vs : List V} {xs : List PyData} (h : DqAll G vs xs) : ∀ k : Nat, DqAll G (List.replicate k vs).flatten (List.replicate k xs).flatten
  | 0 => .nil
  | k + 1 => by
    rw [List.replicate_succ, List.replicate_succ, List.flatten_cons, List.flatten_cons]
    exact h.append (DqAll.rep h k)
theorem DqAll.take {G : Hp} : ∀ {vs : List V} {xs : List PyData} (n : Nat), DqAll G vs xs → DqAll G (vs.take n) (xs.take n)
  | _, _, 0, _ => .nil
  | _, _, _ + 1, .nil => .nil
  | _, _, n + 1, .cons a t => .cons a (DqAll.take n t)
theorem DqAll.drop {G : Hp} : ∀ {vs : List V} {xs : List PyData} (n : Nat), DqAll G vs xs → DqAll G (vs.drop n) (xs.drop n)
  | _, _, 0, h => h
  | _, _, _ + 1, .nil => .nil
  | _, _, n + 1, .cons _ t => DqAll.drop n t
theorem DqAll.reverse {G : Hp} {vs : List V} {xs : List PyData} (h : DqAll G vs xs) : DqAll G vs.reverse xs.reverse := by
  induction vs generalizing xs with
  | nil => cases h; exact .nil
  | cons v vs ih =>
    cases h with
    | cons a t =>
      rw [List.reverse_cons, List.reverse_cons]
      exact (ih t).append (.cons a .nil)
theorem DqAll.cut {G : Hp} {vs : List V} {xs : List PyData} (h : DqAll G vs xs) (lo hi : Option Int) : DqAll G (cutV vs lo hi) (cutD xs lo hi) := by
  unfold cutV cutD
  rw [h.length]
  exact (h.drop _).take _

theorem e_bin (g : Gd Γ N sc X) (o : BO) (ha : PE X l (lift X.K w1)) (hb : PE X r (lift X.K w2)) :
    PE X (.BinOp l (oper o) r pos) (lift X.K fun ρ Q => w1 ρ fun x ρ1 => w2 ρ1 fun y ρ2 => opB o x y fun z => Q z ρ2) := by
  cases o with
  | add =>
    refine PE.imp (pe_op (OpR.or op_add (OpR.or op_add_str (OpR.or of_cat op_cat))) ha hb) fun σ H R h => two_of h fun v u H2 ⟨F, G, ρ, L, x, y, M, N', Q, s, q, q2, ap, hB, k⟩ => ?_
    dsimp only at hB
    unfold opB at hB
    split at hB
    · exact .inl ⟨_, _, q.r.dq.1.int_of, q2.r.dq.1.int_of, k.data s (.int _) hB⟩
    · exact .inr (.inl ⟨_, _, q.r.dq.1.str_of, q2.r.dq.1.str_of, hB.1, k.data s (.str _) hB.2⟩)
    · obtain ⟨p1, vs, rfl, g1, d1⟩ := q.r.dq.1.tup_of
      obtain ⟨p2, us, rfl, g2, d2⟩ := q2.r.dq.1.tup_of
      refine .inr (.inr (.inl ⟨p1, p2, vs, us, rfl, rfl, (g1.grow s.gh).sq, (g2.grow s.gh).sq, by rw [d1.length, d2.length]; exact hB.1, fun e => ?_, fun _ e => ?_, fun e1 e2 => k.tup s (d1.append d2) hB.2⟩))
      · subst e
        have e1 := List.eq_nil_of_length_eq_zero d1.length.symm
        refine k.data s (.tup g2 d2) ?_
        have := hB.2
        rw [e1] at this
        exact this
      · subst e
        have e1 := List.eq_nil_of_length_eq_zero d2.length.symm
        refine k.data s (.tup g1 d1) ?_
        have := hB.2
        rw [e1, List.append_nil] at this
        exact this
    · obtain ⟨xs, ys, e1, e2, hz, hq⟩ := hB
      obtain ⟨G', a, h1, h2⟩ := Two.frz s q q2 ap e1 e2
      obtain ⟨p1, vs, rfl, g1, d1⟩ := h1.lst_of
      obtain ⟨p2, us, rfl, g2, d2⟩ := h2.lst_of
      exact .inr (.inr (.inr ⟨p1, p2, vs, us, rfl, rfl, a.st.gh _ _ g1, a.st.gh _ _ g2, by rw [d1.length, d2.length]; exact hz, fun p hp => (k.step a).lstD a.st hp (d1.append d2) hq⟩))
    all_goals first | contradiction | cases hB
  | sub =>
    refine PE.imp (pe_op op_sub ha hb) fun σ H R h => two_of h fun v u H2 ⟨F, G, ρ, L, x, y, M, N', Q, s, q, q2, ap, hB, k⟩ => ?_
    dsimp only at hB
    unfold opB at hB
    split at hB <;> first
      | exact ⟨_, _, q.r.dq.1.int_of, q2.r.dq.1.int_of, k.data s (.int _) hB⟩
      | contradiction
      | cases hB
  | mul =>
    refine PE.imp (pe_op (OpR.or (OpR.or op_mul op_mulW) op_rep) ha hb) fun σ H R h => two_of h fun v u H2 ⟨F, G, ρ, L, x, y, M, N', Q, s, q, q2, ap, hB, k⟩ => ?_
    dsimp only at hB
    unfold opB at hB
    split at hB <;> first
      | exact .inl (hB.1.elim (fun c => .inl ⟨_, _, q.r.dq.1.int_of, q2.r.dq.1.int_of, c, k.data s (.int _) hB.2⟩) fun c => .inr ⟨_, _, q.r.dq.1.int_of, q2.r.dq.1.int_of, c, k.data s (.int _) hB.2⟩)
      | contradiction
      | (obtain ⟨xs, e1, h1, h2, hz, hq⟩ := hB
         obtain ⟨a, h1⟩ := s.frozen q e1
         obtain ⟨p1, vs, rfl, g1, d1⟩ := h1.lst_of
         exact .inr ⟨p1, _, vs, rfl, q2.r.dq.1.int_of, a.st.gh _ _ g1, by assumption, by assumption, by rw [d1.length]; exact hz, fun p hp => (k.step a).lstD a.st hp (d1.rep _) hq⟩)
      | cases hB
  | fdiv =>
    refine PE.imp (pe_op op_fdivW ha hb) fun σ H R h => two_of h fun v u H2 ⟨F, G, ρ, L, x, y, M, N', Q, s, q, q2, ap, hB, k⟩ => ?_
    dsimp only at hB
    unfold opB at hB
    split at hB <;> first
      | exact ⟨_, _, q.r.dq.1.int_of, q2.r.dq.1.int_of, hB.1, k.data s (.int _) hB.2⟩
      | contradiction
      | cases hB
  | mod =>
    refine PE.imp (pe_op op_mod ha hb) fun σ H R h => two_of h fun v u H2 ⟨F, G, ρ, L, x, y, M, N', Q, s, q, q2, ap, hB, k⟩ => ?_
    dsimp only at hB
    unfold opB at hB
    split at hB <;> first
      | exact ⟨_, _, q.r.dq.1.int_of, q2.r.dq.1.int_of, hB.1, k.data s (.int _) hB.2⟩
      | contradiction
      | cases hB
  | pow =>
    refine PE.imp (pe_op op_pow ha hb) fun σ H R h => two_of h fun v u H2 ⟨F, G, ρ, L, x, y, M, N', Q, s, q, q2, ap, hB, k⟩ => ?_
    dsimp only at hB
    unfold opB at hB
    split at hB <;> first
      | exact ⟨_, _, q.r.dq.1.int_of, q2.r.dq.1.int_of, hB.1, k.data s (.int _) hB.2⟩
      | contradiction
      | cases hB
end
end Tr
set_option Elab.async false
set_option linter.all false
set_option maxRecDepth 100000
set_option maxHeartbeats 1000000
/-! The tree layer, part 5: comparisons, tests, displays. -/
namespace Tr
open PySem PySem.Spec PyProof.Rows L2

mutual
theorem shal_plain : ∀ (n : Nat) (d : PyData), shal n d = true → d.plain = true ∧ d.depth ≤ n
  | _, .none, _ => ⟨rfl, Nat.zero_le _⟩
  | _, .bool _, _ => ⟨rfl, Nat.zero_le _⟩
  | _, .int _, _ => ⟨rfl, Nat.zero_le _⟩
  | _, .str _, _ => ⟨rfl, Nat.zero_le _⟩
  | 0, .list _, h => by simp [shal] at h
  | 0, .tuple _, h => by simp [shal] at h
  | n + 1, .list xs, h => by
    have h : xs.all (shal n) = true := by simpa [shal] using h
    have := shal_plainAll n xs h
    exact ⟨by simpa [PyData.plain] using this.1, by simp only [PyData.depth]; omega⟩
  | n + 1, .tuple xs, h => by
    have h : xs.all (shal n) = true := by simpa [shal] using h
    have := shal_plainAll n xs h
    exact ⟨by simpa [PyData.plain] using this.1, by simp only [PyData.depth]; omega⟩
  | n, .dict _, h => by simp [shal] at h
theorem shal_plainAll : ∀ (n : Nat) (xs : List PyData), xs.all (shal n) = true → PyData.plainAll xs = true ∧ PyData.depthAll xs ≤ n
  | _, [], _ => ⟨rfl, Nat.zero_le _⟩
  | n, x :: xs, h => by
    rw [List.all_cons, Bool.and_eq_true] at h
    have h1 := shal_plain n x h.1
    have h2 := shal_plainAll n xs h.2
    exact ⟨by simp [PyData.plainAll, h1.1, h2.1], by simp only [PyData.depthAll]; omega⟩
end

section
variable {X : Cx}
theorem Dq.reads {pins : List (Addr × Obj)} {σ : L2.St} {H : Hp} {s : Shared} (I : Inv X pins σ H s) {d : PyData} {v : V} {u : Value} (h : Dq H v d) (r : RelV v u) : ∃ as, Reads s.heap u d as := Dp.reads I d v u h.dp r

def rCmp (o : CO) : R2 := fun v u H Q => ∃ a b, Dq H v a ∧ Dq H u b ∧ cmpD o a b fun k => Q (.bl k) H
def copOf : CO → CmpOp
  | .eq => .Eq | .ne => .NotEq | .lt => .Lt | .le => .LtE | .gt => .Gt | .ge => .GtE | .inn => .In | .nin => .NotIn
theorem op_cmp (hu : X.A.units + 200 < cLine) (o : CO) : OpR X (compareOp (copOf o)) (rCmp o) := by
  intro pins s σ H x y v u Q I rx ry h
  obtain ⟨a, b, ha, hb, h⟩ := h
  obtain ⟨as, r1⟩ := ha.reads I rx
  obtain ⟨bs, r2⟩ := hb.reads I ry
  have fin : ∀ k, Q (.bl k) H → EP X pins σ Q (.bool k) s := fun k q => ⟨.bl k, H, I, rfl, q⟩
  cases o with
  | eq =>
    obtain ⟨h1, h2, q⟩ := h
    have p1 := shal_plain _ _ h1
    have p2 := shal_plain _ _ h2
    exact SeqAt.eq_plain r1 r2 p1.1 p2.1 (by omega) (fin _ q)
  | ne =>
    obtain ⟨h1, h2, q⟩ := h
    have p1 := shal_plain _ _ h1
    have p2 := shal_plain _ _ h2
    exact SeqAt.ne_plain r1 r2 p1.1 p2.1 (by omega) (fin _ q)
  | lt =>
    simp only [cmpD] at h
    unfold ordC at h
    split at h
    · cases ha.int_of; cases hb.int_of
      obtain ⟨t, rfl⟩ := rx
      obtain ⟨t', rfl⟩ := ry
      exact lt_int (fin _ h)
    · obtain ⟨h1, h2, h3, q⟩ := h
      have p1 := shal_plain _ _ h3
      exact PySem.W.lt_data r1 r2 h1 h2 (by omega) (fin _ q)
  | gt =>
    simp only [cmpD] at h
    unfold ordC at h
    split at h
    · cases ha.int_of; cases hb.int_of
      obtain ⟨t, rfl⟩ := rx
      obtain ⟨t', rfl⟩ := ry
      exact gt_int (fin _ h)
    · obtain ⟨h1, h2, h3, q⟩ := h
      have p1 := shal_plain _ _ h3
      exact PySem.W.gt_data r1 r2 h1 h2 (by omega) (fin _ q)
  | le =>
    simp only [cmpD] at h
    unfold ordC at h
    split at h
    · cases ha.int_of; cases hb.int_of
      obtain ⟨t, rfl⟩ := rx
      obtain ⟨t', rfl⟩ := ry
      exact le_int (fin _ h)
    · obtain ⟨h1, h2, h3, q⟩ := h
      have p1 := shal_plain _ _ h3
      exact PySem.W.le_data r1 r2 h1 h2 (by omega) (fin _ q)
  | ge =>
    simp only [cmpD] at h
    unfold ordC at h
    split at h
    · cases ha.int_of; cases hb.int_of
      obtain ⟨t, rfl⟩ := rx
      obtain ⟨t', rfl⟩ := ry
      exact ge_int (fin _ h)
    · obtain ⟨h1, h2, h3, q⟩ := h
      have p1 := shal_plain _ _ h3
      exact PySem.W.ge_data r1 r2 h1 h2 (by omega) (fin _ q)
  | inn =>
    simp only [cmpD] at h
    unfold inC at h
    split at h
    · obtain ⟨h1, h2, q⟩ := h
      have p1 := shal_plain _ _ h1
      have p2 := shal_plain _ _ h2
      simp only [PyData.plain] at p2
      exact SeqAt.in_list_data r2 r1 p2.1 p1.1 (by omega) (fin _ q)
    · obtain ⟨h1, h2, q⟩ := h
      have p1 := shal_plain _ _ h1
      have p2 := shal_plain _ _ h2
      simp only [PyData.plain] at p2
      exact SeqAt.in_tuple_data r2 r1 p2.1 p1.1 (by omega) (fin _ q)
    · cases h
  | nin =>
    simp only [cmpD] at h
    unfold inC at h
    split at h
    · obtain ⟨h1, h2, q⟩ := h
      have p1 := shal_plain _ _ h1
      have p2 := shal_plain _ _ h2
      simp only [PyData.plain] at p2
      exact SeqAt.notIn_list_data r2 r1 p2.1 p1.1 (by omega) (fin _ q)
    · obtain ⟨h1, h2, q⟩ := h
      have p1 := shal_plain _ _ h1
      have p2 := shal_plain _ _ h2
      simp only [PyData.plain] at p2
      exact SeqAt.notIn_tuple_data r2 r1 p2.1 p1.1 (by omega) (fin _ q)
    · cases h
end

section
variable {K : PySem.W.Frag} {F G H : Hp} {σ : L2.St} {ρ : Env'} {L M : List Addr} {Q : Tv → Env' → Prop} {R : V → Hp → Prop}
/-- looked at: the value may be one that a name holds -/
def liftR (K : PySem.W.Frag) (w : WE) : TE := fun σ H R => ∃ F G ρ L Q, Sta K F G H ρ σ L ∧ w ρ Q ∧
  ∀ x v ρ' G' H' L' M, Aft K F G G' H' ρ' σ L' → OR K G' H' x v M → Q x ρ' → R v H'
theorem liftR_of {w : WE} (h : liftR K w σ H R) : lift K w σ H R := by
  obtain ⟨F, G, ρ, L, Q, s, hw, k⟩ := h
  exact ⟨F, G, ρ, L, Q, s, hw, fun x v ρ' G' H' L' M a q hq => k x v ρ' G' H' L' M a q.r hq⟩
theorem liftR_sim {Γ : Gam} {s : SE} (h : liftR K (simR Γ s) σ H R) : liftS K Γ s σ H R := by
  obtain ⟨F, G, ρ, L, Q, s, ⟨x, e, hq⟩, k⟩ := h
  exact ⟨F, G, ρ, L, x, s, e, fun v M r _ => k x v ρ G H L M (Aft.refl s) r hq⟩
theorem sim_lift {Γ : Gam} {s : SE} (hv : s.var? = none) (h : lift K (simV Γ s) σ H R) : liftS K Γ s σ H R := by
  obtain ⟨F, G, ρ, L, Q, s, hq, k⟩ := h
  unfold simV at hq
  split at hq
  · rename_i x e
    exact ⟨F, G, ρ, L, _, s, e, fun v M r _ => Kont.data k s r.dq.1 hq⟩
  · rename_i x e
    refine ⟨F, G, ρ, L, _, s, e, fun v M r _ => ?_⟩
    cases r with
    | scr r => exact k _ _ _ _ _ _ [] (Aft.refl s) ⟨.scr r, List.nodup_nil, fun _ z => absurd z (by simp), fun _ z => absurd z (by simp)⟩ hq
  · rename_i x e
    split at hq
    · cases hv
    · cases hq
  · cases hq
theorem set_same {α : Type} : ∀ {l : List α} {i : Nat} {x : α}, l[i]? = some x → l.set i x = l
  | [], _, _, h => by simp at h
  | a :: l, 0, x, h => by simp at h; simp [h]
  | a :: l, i + 1, x, h => by simp at h; simp [set_same h]
/-- a name's own list is frozen where it stands -/
theorem Sta.freezeAt {i : Nat} {x : Tv} {d : PyData} (s : Sta K F G H ρ σ L) (e : ρ[i]? = some (some x)) (hd : x.frz = some d) :
    ∃ v G' L', σ[i]? = some (some v) ∧ Aft K F G G' H (ρ.set i (some (.d d))) σ L' ∧ Dq G' v d := by
  obtain ⟨v, P, M, S, e1, e2, r, put, _⟩ := s.sr.at e
  have hM : ∀ a ∈ M, G a = none := fun a ha => (r.there a ha).2
  have hL : ∀ a ∈ P ++ S, a ∈ L ∧ a ∉ M := fun a ha => by
    have nd := s.nd
    rw [e1] at nd
    refine ⟨by rw [e1]; rcases List.mem_append.mp ha with h | h <;> simp [h], fun hm => ?_⟩
    rw [List.append_assoc, List.nodup_append] at nd
    obtain ⟨n1, n2, n3⟩ := nd
    rw [List.nodup_append] at n2
    rcases List.mem_append.mp ha with h | h
    · exact n3 a h a (by simp [hm]) rfl
    · exact n2.2.2 a hm a h rfl
  have dq := r.frozen hM hd fun _ h => h
  refine ⟨v, freeze G H M, P ++ [] ++ S, e2, ⟨⟨?_, ?_, fun a ha => s.fr a (hL a (by simpa using ha)).1, s.fh, freeze_same s.gh⟩, freeze_grow hM, fun a h1 h2 => ?_⟩, dq⟩
  · have := put (G' := freeze G H M) (H' := H) (x' := .d d) (v' := v) (M' := []) (freeze_grow hM) (fun _ _ => rfl) (fun a ha => by rw [freeze_out (hL a ha).2]; exact (s.sr.there a (hL a ha).1).2) (.d dq)
    rwa [set_same e2] at this
  · have nd := s.nd
    rw [e1] at nd
    exact nd.sublist (by simp)
  · by_cases h : a ∈ M
    · exact absurd (s.fr a (by rw [e1]; simp [h])) h1
    · rw [freeze_out h]
      exact h2
end
end Tr
set_option Elab.async false
set_option linter.all false
set_option maxRecDepth 100000
set_option maxHeartbeats 1000000
/-! The tree layer, part 6: values and tests. -/
namespace Tr
open PySem PySem.Spec PyProof.Rows L2
def liftT (K : PySem.W.Frag) (w : WE) : TT := fun σ H R => lift K w σ H fun v H1 => ∃ b, v = .bl b ∧ R b H1
structure PB (X : Cx) (e : Expr) (w : WE) : Prop where
  pe : PE X e (lift X.K w)
  pt : PT X e (liftT X.K w)
structure PBW (X : Cx) (e : Expr) (w : WE) : Prop where
  pe : PE X e (lift X.K w)
  pw : PW X e (liftT X.K w)
theorem PBW.pb {X : Cx} {e : Expr} {w : WE} (h : PBW X e w) : PB X e w := ⟨h.pe, h.pw.pt⟩
theorem PB.val {X : Cx} {e : Expr} {w : WE} (h : PE X e (lift X.K w)) (he : ∀ whole, isTrue e X.env whole = (do let v ← whole; standAt e.pos; holding [v] (truthy v)) := by intro _; rfl) : PB X e w :=
  ⟨h, PT.imp (pt_val h he) fun _ _ _ q => q⟩

section
variable {Γ : Gam} {N : List Str} {sc : Scope} {X : Cx} {l r m : Expr} {rest : List Expr} {pos : Pos} {w w1 w2 w3 : WE}
theorem e_name (g : Gd Γ N sc X) {i : Nat} {x : Str} (h : (decide (N[i]? = some x) && visB sc x && nmB x) = true) : PE X (.Name x pos) (tVar i) := by
  simp only [Bool.and_eq_true, decide_eq_true_eq] at h
  exact pe_var (by rw [g.nm]; exact h.1.1) (g.vis h.1.2) (nm1 h.2) (nm2 h.2)
theorem okSE_var {i : Nat} {e : Expr} (h : okSE N sc (.var i) e = true) : ∃ x pos, e = .Name x pos ∧ (decide (N[i]? = some x) && visB sc x && nmB x) = true := by
  cases e with
  | Name x pos => exact ⟨x, pos, rfl, h⟩
  | _ => exact nomatch (show false = true from h)
theorem okSE_true {env : Env} : ∀ {s : SE} {e : Expr}, okSE N sc s e = true → ∀ whole, isTrue e env whole = (do let v ← whole; standAt e.pos; holding [v] (truthy v))
  | .var i, e, h => by cases e <;> first | (intro _; rfl) | exact nomatch (show false = true from h)
  | .int i, e, h => by cases e <;> first | (intro _; rfl) | exact nomatch (show false = true from h)
  | .str i, e, h => by cases e <;> first | (intro _; rfl) | exact nomatch (show false = true from h)
  | .bl i, e, h => by cases e <;> first | (intro _; rfl) | exact nomatch (show false = true from h)
  | .non, e, h => by cases e <;> first | (intro _; rfl) | exact nomatch (show false = true from h)
  | .glob i, e, h => by cases e <;> first | (intro _; rfl) | exact nomatch (show false = true from h)
  | .add a b, e, h => by cases e <;> first | (intro _; rfl) | exact nomatch (show false = true from h)
  | .sub a b, e, h => by cases e <;> first | (intro _; rfl) | exact nomatch (show false = true from h)
  | .neg a, e, h => by
    cases e with
    | UnaryOp o l pos => cases o <;> first | (intro _; rfl) | exact nomatch (show false = true from h)
    | _ => exact nomatch (show false = true from h)
  | .idx a b, e, h => by cases e <;> first | (intro _; rfl) | exact nomatch (show false = true from h)
  | .len a, e, h => by cases e <;> first | (intro _; rfl) | exact nomatch (show false = true from h)

theorem e_sim (g : Gd Γ N sc X) {s : SE} {e : Expr} (h : okSE N sc s e = true) : PB X e (simV Γ s) := by
  refine .val ?_ (okSE_true h)
  cases hv : s.var? with
  | none => exact PE.imp (se_ok g s e h) fun _ _ _ q => sim_lift hv q
  | some i =>
    have e1 : s = .var i := by cases s <;> first | (cases hv; rfl) | cases hv
    subst e1
    obtain ⟨x, pos, rfl, h⟩ := okSE_var h
    refine PE.imp (e_name g h) fun σ H R ⟨F, G, ρ, L, Q, s, hq, k⟩ => ?_
    unfold simV at hq
    split at hq
    · rename_i x e
      obtain ⟨v, P, M, S, e1, e2, r, _⟩ := s.sr.at (join_some e)
      exact ⟨v, e2, Kont.data k s r.dq.1 hq⟩
    · rename_i x e
      obtain ⟨v, P, M, S, e1, e2, r, _⟩ := s.sr.at (join_some e)
      refine ⟨v, e2, ?_⟩
      cases r with
      | scr r => exact k _ _ _ _ _ _ [] (Aft.refl s) ⟨.scr r, List.nodup_nil, fun _ z => absurd z (by simp), fun _ z => absurd z (by simp)⟩ hq
    · rename_i x e
      obtain ⟨d, ed, hq⟩ := hq
      obtain ⟨v, G', L', e2, a, dq⟩ := s.freezeAt (join_some e) ed
      exact ⟨v, e2, Kont.data (Kont.step k a) a.st dq hq⟩
    · cases hq
/-- looked at -/
def wR (Γ : Gam) (w : WE) (s : Option SE) : WE := match s with
  | some s => simR Γ s
  | none => w
theorem e_look (g : Gd Γ N sc X) {s : SE} {e : Expr} (h : okSE N sc s e = true) : PE X e (liftR X.K (simR Γ s)) := PE.imp (se_ok g s e h) fun _ _ _ q => liftR_sim q

theorem cmpD_mono {o : CO} {a b : PyData} {Q Q' : Bool → Prop} (h : cmpD o a b Q) (k : ∀ x, Q x → Q' x) : cmpD o a b Q' := by
  cases o <;> simp only [cmpD] at h ⊢
  · exact ⟨h.1, h.2.1, k _ h.2.2⟩
  · exact ⟨h.1, h.2.1, k _ h.2.2⟩
  all_goals first
    | (unfold ordC at h ⊢
       split at h
       · exact k _ h
       · exact ⟨h.1, h.2.1, h.2.2.1, k _ h.2.2.2⟩)
    | (unfold inC at h ⊢
       split at h
       · exact ⟨h.1, h.2.1, k _ h.2.2⟩
       · exact ⟨h.1, h.2.1, k _ h.2.2⟩
       · cases h)
theorem e_cmpV (g : Gd Γ N sc X) (o : CO) {i : Nat} (hl : okSE N sc (.var i) l = true) (hb : PE X r (liftR X.K w2)) (pl : plainE r = true) :
    PB X (.Compare l [copOf o] [r] pos) (fun ρ Q => (∃ x, ρ[i]? = some (some x)) ∧ w2 ρ fun y ρ2 => ∃ x, ρ2[i]? = some (some x) ∧ cmpO o x y fun k => Q (.d (.bool k)) ρ2) := by
  obtain ⟨z, p, rfl, h⟩ := okSE_var hl
  have main : ∀ σ H R, lift X.K (fun ρ Q => (∃ x, ρ[i]? = some (some x)) ∧ w2 ρ fun y ρ2 => ∃ x, ρ2[i]? = some (some x) ∧ cmpO o x y fun k => Q (.d (.bool k)) ρ2) σ H R → tOp (rCmp o) (tVar i) (liftR X.K w2) σ H R := by
    rintro σ H R ⟨F, G, ρ, L, Q, s, ⟨⟨x, ex⟩, hw⟩, k⟩
    obtain ⟨v, _, _, _, _, e2, _, _⟩ := s.sr.at ex
    refine ⟨v, e2, F, G, ρ, L, _, s, hw, fun y u ρ2 G2 H2 L2 M a r2 ⟨x2, ex2, c, d, hc, hd, hcmp⟩ => ?_⟩
    obtain ⟨v2, _, _, _, _, e3, r3, _⟩ := a.st.sr.at ex2
    rw [e2] at e3
    cases e3
    exact ⟨c, d, r3.now a.st.gh hc, r2.now a.st.gh hd, cmpD_mono hcmp fun b hb => Kont.data (Kont.step k a) a.st (.bl b) hb⟩
  have pe : PE X (.Compare (.Name z p) [copOf o] [r] pos) (tOp (rCmp o) (tVar i) (liftR X.K w2)) := pe_cmpR (op_cmp g.un o) (e_name g h) hb (behind_plain pl)
  have pt : PT X (.Compare (.Name z p) [copOf o] [r] pos) (tTest (tOp (rCmp o) (tVar i) (liftR X.K w2))) := pt_cmpR (op_cmp g.un o) (e_name g h) hb (behind_plain pl)
  exact ⟨PE.imp pe main, PT.imp pt fun σ H R q => main σ H _ q⟩
theorem e_cmp (g : Gd Γ N sc X) (o : CO) (ha : PE X l (lift X.K w1)) (hb : PE X r (liftR X.K w2)) (pl : plainE r = true) :
    PB X (.Compare l [copOf o] [r] pos) (fun ρ Q => w1 ρ fun x ρ1 => w2 ρ1 fun y ρ2 => cmpO o x y fun k => Q (.d (.bool k)) ρ2) := by
  have main : ∀ σ H R, lift X.K (fun ρ Q => w1 ρ fun x ρ1 => w2 ρ1 fun y ρ2 => cmpO o x y fun k => Q (.d (.bool k)) ρ2) σ H R → tOp (rCmp o) (lift X.K w1) (liftR X.K w2) σ H R := by
    rintro σ H R ⟨F, G, ρ, L, Q, s, hw, k⟩
    refine ⟨F, G, ρ, L, _, s, hw, fun x v ρ1 G1 H1 L1 M a q hb => ⟨Tr.hold F H1 M, G1, ρ1, L1, _, a.st.hold q, hb, fun y u ρ2 G2 H2 L2 M2 b r2 ⟨c, d, hc, hd, hcmp⟩ => ?_⟩⟩
    obtain ⟨b1, q1⟩ := Aft.held q b
    exact ⟨c, d, q1.r.now b1.st.gh hc, r2.now b1.st.gh hd, cmpD_mono hcmp fun z hz => Kont.data (Kont.step k (a.trans b1)) b1.st (.bl z) hz⟩
  exact ⟨PE.imp (pe_cmpR (op_cmp g.un o) ha hb (behind_plain pl)) main, PT.imp (pt_cmpR (op_cmp g.un o) ha hb (behind_plain pl)) fun σ H R q => main σ H _ q⟩
theorem dec_non {G : Hp} {v : V} {d : PyData} (h : Dq G v d) : decide (v = .non) = (isNonD d) := by
  cases h <;> simp [isNonD]
theorem dec_non' {G : Hp} {v : V} {d : PyData} (h : Dq G v d) : (!decide (v = .non)) = (!isNonD d) := by
  cases h <;> simp [isNonD]
theorem e_isN (g : Gd Γ N sc X) (ha : PE X l (liftR X.K w1)) {j : Nat} {p : Pos} : PB X (.Compare l [.Is] [.Constant .none j p] pos) (fun ρ Q => w1 ρ fun x ρ1 => frzT x fun d => Q (.d (.bool (isNonD d))) ρ1) := by
  have main : ∀ σ H R, lift X.K (fun ρ Q => w1 ρ fun x ρ1 => frzT x fun d => Q (.d (.bool (isNonD d))) ρ1) σ H R → tIsN (liftR X.K w1) σ H R := by
    rintro σ H R ⟨F, G, ρ, L, Q, s, hw, k⟩
    refine ⟨F, G, ρ, L, _, s, hw, fun x v ρ1 G1 H1 L1 M a r ⟨d, hd, hq⟩ => ?_⟩
    show R (.bl (decide (v = .non))) H1
    rw [dec_non (r.now a.st.gh hd)]
    exact Kont.data (Kont.step k a) a.st (.bl _) hq
  exact ⟨PE.imp (pe_cmp (pc_isN ha) rfl) main, PT.imp (pt_cmp (pc_isN ha) rfl) fun σ H R q => main σ H _ q⟩
theorem e_notN (g : Gd Γ N sc X) (ha : PE X l (liftR X.K w1)) {j : Nat} {p : Pos} : PB X (.Compare l [.IsNot] [.Constant .none j p] pos) (fun ρ Q => w1 ρ fun x ρ1 => frzT x fun d => Q (.d (.bool (!isNonD d))) ρ1) := by
  have main : ∀ σ H R, lift X.K (fun ρ Q => w1 ρ fun x ρ1 => frzT x fun d => Q (.d (.bool (!isNonD d))) ρ1) σ H R → tNotN (liftR X.K w1) σ H R := by
    rintro σ H R ⟨F, G, ρ, L, Q, s, hw, k⟩
    refine ⟨F, G, ρ, L, _, s, hw, fun x v ρ1 G1 H1 L1 M a r ⟨d, hd, hq⟩ => ?_⟩
    show R (.bl (!decide (v = .non))) H1
    rw [dec_non' (r.now a.st.gh hd)]
    exact Kont.data (Kont.step k a) a.st (.bl _) hq
  exact ⟨PE.imp (pe_cmp (pc_notN ha) rfl) main, PT.imp (pt_cmp (pc_notN ha) rfl) fun σ H R q => main σ H _ q⟩

/-! and, or, not, if -/
theorem bl_of {K : PySem.W.Frag} {F G H : Hp} {L M : List Addr} {b : Bool} {v : V} (q : Val K F G H L (.d (.bool b)) v M) : v = .bl b := q.r.dq.1.bl_of
theorem e_and1 (ha : PB X l w) : PBW X (.BoolOp .And [l] pos) (fun ρ Q => w ρ fun x ρ1 => ∃ b, x = .d (.bool b) ∧ Q (.d (.bool b)) ρ1) := by
  have main : ∀ σ H R, lift X.K (fun ρ Q => w ρ fun x ρ1 => ∃ b, x = .d (.bool b) ∧ Q (.d (.bool b)) ρ1) σ H R → lift X.K w σ H R := by
    rintro σ H R ⟨F, G, ρ, L, Q, s, hw, k⟩
    exact ⟨F, G, ρ, L, _, s, hw, fun x v ρ1 G1 H1 L1 M a q ⟨b, e, hq⟩ => by subst e; exact k _ _ _ _ _ _ _ a q hq⟩
  exact ⟨PE.imp (pe_one ha.pe) main, ⟨fun wh pins s σ H R I h => (pw_and1 ha.pt).run wh pins s σ H R I (main σ H _ h)⟩⟩
theorem e_or1 (ha : PB X l w) : PBW X (.BoolOp .Or [l] pos) (fun ρ Q => w ρ fun x ρ1 => ∃ b, x = .d (.bool b) ∧ Q (.d (.bool b)) ρ1) := by
  have main : ∀ σ H R, lift X.K (fun ρ Q => w ρ fun x ρ1 => ∃ b, x = .d (.bool b) ∧ Q (.d (.bool b)) ρ1) σ H R → lift X.K w σ H R := by
    rintro σ H R ⟨F, G, ρ, L, Q, s, hw, k⟩
    exact ⟨F, G, ρ, L, _, s, hw, fun x v ρ1 G1 H1 L1 M a q ⟨b, e, hq⟩ => by subst e; exact k _ _ _ _ _ _ _ a q hq⟩
  exact ⟨PE.imp (pe_one ha.pe) main, ⟨fun wh pins s σ H R I h => (pw_or1 ha.pt).run wh pins s σ H R I (main σ H _ h)⟩⟩
theorem if_bool {c : Bool} {A B : Prop} (h1 : c = true → A) (h2 : c = false → B) : if c = true then A else B := by
  cases c with
  | true => exact h1 rfl
  | false => exact h2 rfl
theorem e_and (ha : PB X l w) (hb : PBW X (.BoolOp .And (m :: rest) pos) w2) :
    PBW X (.BoolOp .And (l :: m :: rest) pos) (fun ρ Q => w ρ fun x ρ1 => ∃ b, x = .d (.bool b) ∧ ((b = true → w2 ρ1 Q) ∧ (b = false → Q (.d (.bool false)) ρ1))) := by
  refine ⟨PE.imp (pe_and ha.pe hb.pe) fun σ H R ⟨F, G, ρ, L, Q, s, hw, k⟩ => ?_, ⟨fun wh pins s σ H R I h => (pw_and ha.pt hb.pw).run wh pins s σ H R I ?_⟩⟩
  · refine ⟨F, G, ρ, L, _, s, hw, fun x v ρ1 G1 H1 L1 M a q ⟨b, e, h1, h2⟩ => ?_⟩
    subst e
    exact ⟨b, bl_of q, if_bool (fun e => ⟨F, G1, ρ1, L1, Q, a.st, h1 e, Kont.step k a⟩) fun e => Kont.data (Kont.step k a) a.st (.bl _) (h2 e)⟩
  · obtain ⟨F, G, ρ, L, Q, s, hw, k⟩ := h
    refine ⟨F, G, ρ, L, _, s, hw, fun x v ρ1 G1 H1 L1 M a q ⟨b, e, h1, h2⟩ => ?_⟩
    subst e
    refine ⟨b, bl_of q, if_bool (fun e => ⟨F, G1, ρ1, L1, Q, a.st, h1 e, Kont.step k a⟩) fun e => ?_⟩
    obtain ⟨b', e', h'⟩ := Kont.data (Kont.step k a) a.st (.bl _) (h2 e)
    cases e'
    exact h'
theorem e_or (ha : PB X l w) (hb : PBW X (.BoolOp .Or (m :: rest) pos) w2) :
    PBW X (.BoolOp .Or (l :: m :: rest) pos) (fun ρ Q => w ρ fun x ρ1 => ∃ b, x = .d (.bool b) ∧ ((b = true → Q (.d (.bool true)) ρ1) ∧ (b = false → w2 ρ1 Q))) := by
  refine ⟨PE.imp (pe_or ha.pe hb.pe) fun σ H R ⟨F, G, ρ, L, Q, s, hw, k⟩ => ?_, ⟨fun wh pins s σ H R I h => (pw_or ha.pt hb.pw).run wh pins s σ H R I ?_⟩⟩
  · refine ⟨F, G, ρ, L, _, s, hw, fun x v ρ1 G1 H1 L1 M a q ⟨b, e, h1, h2⟩ => ?_⟩
    subst e
    exact ⟨b, bl_of q, if_bool (fun e => Kont.data (Kont.step k a) a.st (.bl _) (h1 e)) fun e => ⟨F, G1, ρ1, L1, Q, a.st, h2 e, Kont.step k a⟩⟩
  · obtain ⟨F, G, ρ, L, Q, s, hw, k⟩ := h
    refine ⟨F, G, ρ, L, _, s, hw, fun x v ρ1 G1 H1 L1 M a q ⟨b, e, h1, h2⟩ => ?_⟩
    subst e
    refine ⟨b, bl_of q, if_bool (fun e => ?_) fun e => ⟨F, G1, ρ1, L1, Q, a.st, h2 e, Kont.step k a⟩⟩
    obtain ⟨b', e', h'⟩ := Kont.data (Kont.step k a) a.st (.bl _) (h1 e)
    cases e'
    exact h'
theorem e_not (ha : PB X l w) : PB X (.UnaryOp .Not l pos) (fun ρ Q => w ρ fun x ρ1 => ∃ b, x = .d (.bool b) ∧ Q (.d (.bool (!b))) ρ1) := by
  refine ⟨PE.imp (pe_not ha.pe) fun σ H R ⟨F, G, ρ, L, Q, s, hw, k⟩ => ?_, PT.imp (pt_not ha.pt) fun σ H R ⟨F, G, ρ, L, Q, s, hw, k⟩ => ?_⟩
  · refine ⟨F, G, ρ, L, _, s, hw, fun x v ρ1 G1 H1 L1 M a q ⟨b, e, h1⟩ => ?_⟩
    subst e
    exact ⟨b, bl_of q, Kont.data (Kont.step k a) a.st (.bl _) h1⟩
  · refine ⟨F, G, ρ, L, _, s, hw, fun x v ρ1 G1 H1 L1 M a q ⟨b, e, h1⟩ => ?_⟩
    subst e
    obtain ⟨b', e', h'⟩ := Kont.data (Kont.step k a) a.st (.bl _) h1
    cases e'
    exact ⟨b, bl_of q, h'⟩
theorem pt_ifExp {c a b : Expr} {tc ta tb : TT} (hc : PT X c tc) (ha : PT X a ta) (hb : PT X b tb) : PT X (.IfExp c a b pos) (fun σ H Q => tc σ H fun k H1 => if k = true then ta σ H1 Q else tb σ H1 Q) := by
  refine ⟨fun pins s σ H Q I h => ?_⟩
  show wpAny (model X.prog X.w) X.A (do if ← isTrue c X.env (eval c X.env) then isTrue a X.env (eval a X.env) else isTrue b X.env (eval b X.env)) _ _ s
  refine wpAny_bind (thn (hc.run pins s σ H _ I h) fun k s1 ⟨H1, I1, q⟩ => ?_)
  cases k with
  | true => exact ha.run pins s1 σ H1 Q I1 q
  | false => exact hb.run pins s1 σ H1 Q I1 q
theorem e_ite {c : Expr} (hc : PB X c w) (ha : PB X l w1) (hb : PB X r w2) : PB X (.IfExp c l r pos) (fun ρ Q => w ρ fun x ρ1 => ∃ k, x = .d (.bool k) ∧ (k = true → w1 ρ1 Q) ∧ (k = false → w2 ρ1 Q)) := by
  refine ⟨PE.imp (pe_ifExp hc.pt ha.pe hb.pe) fun σ H R ⟨F, G, ρ, L, Q, s, hw, k⟩ => ?_, PT.imp (pt_ifExp hc.pt ha.pt hb.pt) fun σ H R ⟨F, G, ρ, L, Q, s, hw, k⟩ => ?_⟩
  · refine ⟨F, G, ρ, L, _, s, hw, fun x v ρ1 G1 H1 L1 M a q ⟨b, e, h1, h2⟩ => ?_⟩
    subst e
    exact ⟨b, bl_of q, if_bool (fun e => ⟨F, G1, ρ1, L1, Q, a.st, h1 e, Kont.step k a⟩) fun e => ⟨F, G1, ρ1, L1, Q, a.st, h2 e, Kont.step k a⟩⟩
  · refine ⟨F, G, ρ, L, _, s, hw, fun x v ρ1 G1 H1 L1 M a q ⟨b, e, h1, h2⟩ => ?_⟩
    subst e
    exact ⟨b, bl_of q, if_bool (fun e => ⟨F, G1, ρ1, L1, Q, a.st, h1 e, Kont.step k a⟩) fun e => ⟨F, G1, ρ1, L1, Q, a.st, h2 e, Kont.step k a⟩⟩
/-- a op b op2 c -/
theorem e_chain (g : Gd Γ N sc X) (o o' : CO) {c : Expr} (ha : PE X l (lift X.K w1)) (hb : PE X r (lift X.K w2)) (hc : PE X c (lift X.K w3)) (pl : plainE c = true) :
    PB X (.Compare l [copOf o, copOf o'] [r, c] pos) (fun ρ Q => w1 ρ fun x ρ1 => w2 ρ1 fun y ρ2 => cmpO o x y fun k => (k = true → w3 ρ2 fun z ρ3 => cmpO o' y z fun l => Q (.d (.bool l)) ρ3) ∧ (k = false → Q (.d (.bool false)) ρ2)) := by
  have main : ∀ σ H R, lift X.K (fun ρ Q => w1 ρ fun x ρ1 => w2 ρ1 fun y ρ2 => cmpO o x y fun k => (k = true → w3 ρ2 fun z ρ3 => cmpO o' y z fun l => Q (.d (.bool l)) ρ3) ∧ (k = false → Q (.d (.bool false)) ρ2)) σ H R →
      tChain (rCmp o) (rCmp o') (lift X.K w1) (lift X.K w2) (lift X.K w3) σ H R := by
    rintro σ H R ⟨F, G, ρ, L, Q, s, hw, k⟩
    refine ⟨F, G, ρ, L, _, s, hw, fun x v ρ1 G1 H1 L1 M a q hb => ⟨Tr.hold F H1 M, G1, ρ1, L1, _, a.st.hold q, hb, fun y u ρ2 G2 H2 L2 M2 b q2 ⟨c, d, hc, hd, hcmp⟩ => ?_⟩⟩
    obtain ⟨b1, q1⟩ := Aft.held q b
    obtain ⟨q2, _⟩ := held_apart q q2
    refine ⟨c, d, q1.r.now b1.st.gh hc, q2.r.now b1.st.gh hd, cmpD_mono hcmp fun z hz => ⟨z, rfl, if_bool (fun e => ?_) fun e => Kont.data (Kont.step k (a.trans b1)) b1.st (.bl _) (hz.2 e)⟩⟩
    refine ⟨Tr.hold F H2 M2, G2, ρ2, L2, _, b1.st.hold q2, hz.1 e, fun z' w' ρ3 G3 H3 L3 M3 b' q3 ⟨c', d', hc', hd', hcmp'⟩ => ?_⟩
    obtain ⟨b2, q2'⟩ := Aft.held q2 b'
    exact ⟨c', d', q2'.r.now b2.st.gh hc', q3.r.now b2.st.gh hd', cmpD_mono hcmp' fun z hz => Kont.data (Kont.step k (a.trans (b1.trans b2))) b2.st (.bl z) hz⟩
  have lm : lastMarks [copOf o, copOf o'] [r, c] = false := by
    show behindInMarks (copOf o') c = false
    exact behind_plain pl
  exact ⟨PE.imp (pe_chain (op_cmp g.un o) (op_cmp g.un o') ha hb hc lm) main, PT.imp (pt_chain (op_cmp g.un o) (op_cmp g.un o') ha hb hc lm) fun σ H R q => main σ H _ q⟩
end
end Tr
set_option Elab.async false
set_option linter.all false
set_option maxRecDepth 100000
set_option maxHeartbeats 1000000
/-! The tree layer, part 7: displays, items, slices, built-ins. -/
namespace Tr
open PySem PySem.Spec PyProof.Rows L2
structure ValL (K : PySem.W.Frag) (F G H : Hp) (L : List Addr) (xs : List Tv) (vs : List V) (M : List Addr) : Prop where
  r : ORs K G H xs vs M
  nd : M.Nodup
  fr : ∀ a ∈ M, F a = none
  ap : ∀ a ∈ M, a ∉ L
def liftL (K : PySem.W.Frag) (n : Nat) (w : WL) : TA := fun σ H R => ∃ F G ρ L Q, Sta K F G H ρ σ L ∧ w ρ Q ∧
  ∀ xs vs ρ' G' H' L' M, Aft K F G G' H' ρ' σ L' → ValL K F G' H' L' xs vs M → xs.length = n → Q xs ρ' → R vs H'
section
variable {K : PySem.W.Frag} {F G H : Hp} {σ : L2.St} {ρ : Env'} {L M : List Addr} {Q : Tv → Env' → Prop} {R : V → Hp → Prop}
theorem ValL.val {xs : List Tv} {v : V} {vs : List V} {x : Tv} (q : ValL K F G H L [x] [v] M) : Val K F G H L x v M := by
  obtain ⟨r, nd, fr, ap⟩ := q
  cases r with
  | cons a t =>
    cases t
    rw [List.append_nil] at *
    exact ⟨a, nd, fr, ap⟩
theorem Sta.frozenL {xs : List Tv} {vs : List V} {ds : List PyData} (s : Sta K F G H ρ σ L) (q : ValL K F G H L xs vs M) (e : frzs xs = some ds) : Aft K F G (freeze G H M) H ρ σ L ∧ DqAll (freeze G H M) vs ds := by
  have hM : ∀ a ∈ M, G a = none := fun a ha => (q.r.there a ha).2
  refine ⟨⟨⟨s.sr.step (freeze_grow hM) (fun _ _ => rfl) fun a ha => ?_, s.nd, s.fr, s.fh, freeze_same s.gh⟩, freeze_grow hM, fun a h1 h2 => ?_⟩, q.r.frozen hM e fun _ h => h⟩
  · rw [freeze_out fun h => q.ap a h ha]
    exact (s.sr.there a ha).2
  · by_cases h : a ∈ M
    · exact absurd (q.fr a h) h1
    · rw [freeze_out h]
      exact h2
theorem frzs_length : ∀ {xs : List Tv} {ds : List PyData}, frzs xs = some ds → ds.length = xs.length
  | [], _, h => by rw [frzs] at h; cases h; rfl
  | x :: xs, _, h => by
    obtain ⟨d, es, _, e2, rfl⟩ := frzs_cons h
    simp [frzs_length e2]
theorem small_n {n : Nat} (h : n ≤ 1000) : n ≤ sizeLine := Nat.le_of_lt (small1000 h)
end
section
variable {Γ : Gam} {N : List Str} {sc : Scope} {X : Cx} {l r m : Expr} {rest es : List Expr} {pos : Pos} {w w1 w2 w3 : WE} {wl : WL} {n : Nat}
theorem a_nil : PA X [] (liftL X.K 0 fun ρ Q => Q [] ρ) := PA.imp pa_nil fun σ H R ⟨F, G, ρ, L, Q, s, hw, k⟩ => k [] [] ρ G H L [] (Aft.refl s) ⟨.nil, List.nodup_nil, fun _ z => absurd z (by simp), fun _ z => absurd z (by simp)⟩ rfl hw
theorem a_cons (ha : PE X l (lift X.K w)) (hr : PA X rest (liftL X.K n wl)) (pl : plainE l = true) : PA X (l :: rest) (liftL X.K (n + 1) fun ρ Q => w ρ fun x ρ1 => wl ρ1 fun xs ρ2 => Q (x :: xs) ρ2) := by
  refine PA.imp (pa_cons ha hr (starEach_plain pl)) fun σ H R ⟨F, G, ρ, L, Q, s, hw, k⟩ => ?_
  refine ⟨F, G, ρ, L, _, s, hw, fun x v ρ1 G1 H1 L1 M a q hb => ⟨Tr.hold F H1 M, G1, ρ1, L1, _, a.st.hold q, hb, fun xs vs ρ2 G2 H2 L2 M2 b q2 hn hq => ?_⟩⟩
  obtain ⟨b1, q1⟩ := Aft.held q b
  refine k (x :: xs) (v :: vs) ρ2 G2 H2 L2 (M ++ M2) (a.trans b1) ⟨.cons q1.r q2.r, ?_, fun c hc => ?_, fun c hc => ?_⟩ (by simp [hn]) hq
  · rw [List.nodup_append]
    refine ⟨q1.nd, q2.nd, fun c hc d hd e => ?_⟩
    subst e
    have := q2.fr c hd
    obtain ⟨⟨o, ho⟩, _⟩ := q.r.there c hc
    rw [hold_in hc, ho] at this
    cases this
  · rcases List.mem_append.mp hc with h | h
    · exact q1.fr c h
    · exact (hold_le q.fr).free (q2.fr c h)
  · rcases List.mem_append.mp hc with h | h
    · exact q1.ap c h
    · exact q2.ap c h
theorem e_tup {k : Nat} (h : PA X es (liftL X.K n wl)) (hn : n ≤ 1000) : PB X (.Tuple es k pos) (fun ρ Q => wl ρ fun xs ρ1 => ∃ ds, frzs xs = some ds ∧ Q (.d (.tuple ds)) ρ1) := by
  refine .val (PE.imp (pf_tup h) fun σ H R ⟨F, G, ρ, L, Q, s, hw, k⟩ => ⟨F, G, ρ, L, _, s, hw, fun xs vs ρ' G' H' L' M a q hl ⟨ds, e, hq⟩ => ?_⟩)
  obtain ⟨b, h1⟩ := a.st.frozenL q e
  exact ⟨by rw [← q.r.length, hl]; exact small_n hn, Kont.tup (Kont.step k (a.trans b)) b.st h1 hq⟩
theorem e_lst (h : PA X es (liftL X.K n wl)) (hn : n ≤ 1000) : PB X (.List es pos) (fun ρ Q => wl ρ fun xs ρ1 => Q (.own xs) ρ1) := by
  refine .val (PE.imp (pe_lst h) fun σ H R ⟨F, G, ρ, L, Q, s, hw, k⟩ => ⟨F, G, ρ, L, _, s, hw, fun xs vs ρ' G' H' L' M a q hl hq => ?_⟩)
  exact ⟨by rw [← q.r.length, hl]; exact small_n hn, fun p hp => Kont.lst (Kont.step k a) a.st hp q.r q.nd q.fr q.ap hq⟩
theorem e_neg (ha : PE X l (lift X.K w)) : PB X (.UnaryOp .USub l pos) (fun ρ Q => w ρ fun x ρ1 => ∃ i, x = .d (.int i) ∧ Q (.d (.int (-i))) ρ1) := by
  refine .val (PE.imp (pe_un un_neg ha) fun σ H R h => one_of (r := rU fun i => V.int (-i)) h fun v H1 ⟨F, G, ρ, L, x, M, Q, s, q, ⟨i, e, hq⟩, k⟩ => ?_)
  subst e
  exact ⟨i, q.r.dq.1.int_of, Kont.data k s (.int _) hq⟩
theorem e_idx (ha : PE X l (lift X.K w1)) (hb : PE X r (lift X.K w2)) (pl : plainE r = true) :
    PB X (.Subscript l r pos) (fun ρ Q => w1 ρ fun x ρ1 => w2 ρ1 fun y ρ2 => ∃ k z, y = .d (.int k) ∧ x.item k = some (.d z) ∧ Q (.d z) ρ2) := by
  refine .val (PE.imp (pe_ix (ix_list.or ix_tup) ha hb (ix_plain pl)) fun σ H R h => two_of h fun v u H2 ⟨F, G, ρ, L, x, y, M, N', Q, s, q, q2, ap, ⟨i, z, e, hi, hq⟩, k⟩ => ?_)
  subst e
  obtain ⟨p, vs, w, M2, rfl, hv, hat, r3, _⟩ := item_at s.gh q.r hi
  have fin := Kont.data k s r3.dq.1 hq
  rcases hv with hv | hv
  · exact .inl ⟨p, vs, i, w, rfl, q2.r.dq.1.int_of, hv, hat, fin⟩
  · exact .inr ⟨p, vs, i, w, rfl, q2.r.dq.1.int_of, hv, hat, fin⟩

/-! slices -/
def liftO (K : PySem.W.Frag) (w : WO) : TO := fun σ H R => ∃ F G ρ L Q, Sta K F G H ρ σ L ∧ w ρ Q ∧ ∀ o ρ' G' H' L', Aft K F G G' H' ρ' σ L' → Q o ρ' → R o H'
theorem o_none : PO X none (liftO X.K fun ρ Q => Q none ρ) := by
  refine ⟨fun pins s σ H R I ⟨F, G, ρ, L, Q, st, hw, k⟩ => po_none.run pins s σ H R I (k none ρ G H L (Aft.refl st) hw)⟩
theorem o_some (h : PE X l (lift X.K w)) : PO X (some l) (liftO X.K fun ρ Q => w ρ fun x ρ1 => ∃ k, x = .d (.int k) ∧ Q (some k) ρ1) := by
  refine ⟨fun pins s σ H R I ⟨F, G, ρ, L, Q, st, hw, k⟩ => (po_some h).run pins s σ H R I ?_⟩
  refine ⟨F, G, ρ, L, _, st, hw, fun x v ρ1 G1 H1 L1 M a q ⟨i, e, hq⟩ => ?_⟩
  subst e
  exact ⟨i, q.r.dq.1.int_of, k (some i) ρ1 G1 H1 L1 a hq⟩
theorem e_slice {lo hi : Option Expr} {p2 : Pos} {wlo whi : WO} (ha : PE X l (lift X.K w)) (hl : PO X lo (liftO X.K wlo)) (hh : PO X hi (liftO X.K whi)) :
    PB X (.Subscript l (.Slice lo hi none p2) pos) (fun ρ Q => w ρ fun x ρ1 => wlo ρ1 fun a ρ2 => whi ρ2 fun b ρ3 => sliceO x a b fun z => Q z ρ3) := by
  refine .val (PE.imp (pe_slice (SlR.or sl_list sf_tup) ha hl hh) fun σ H R ⟨F, G, ρ, L, Q, s, hw, k⟩ => ?_)
  refine ⟨F, G, ρ, L, _, s, hw, fun x v ρ1 G1 H1 L1 M a q hb => ⟨Tr.hold F H1 M, G1, ρ1, L1, _, a.st.hold q, hb, fun lo' ρ2 G2 H2 L2 b hb2 => ⟨Tr.hold F H1 M, G2, ρ2, L2, _, b.st, hb2, fun hi' ρ3 G3 H3 L3 c hs => ?_⟩⟩⟩
  obtain ⟨bc, q1⟩ := Aft.held q (b.trans c)
  have k := Kont.step k (a.trans bc)
  have s3 := bc.st
  unfold sliceO at hs
  split at hs
  · rename_i ns
    cases q1.r with
    | scr r =>
      refine .inl ⟨_, _, rfl, s3.gh.seq r, fun p hp => ?_⟩
      have : DqAll G3 (cutV (ns.map V.int) lo' hi') ((cutD ns lo' hi').map PyData.int) := by
        have e1 : cutV (ns.map V.int) lo' hi' = (cutD ns lo' hi').map V.int := by
          unfold cutV cutD
          rw [List.length_map, ← List.map_drop, ← List.map_take]
        rw [e1]
        clear hs
        induction cutD ns lo' hi' with
        | nil => exact .nil
        | cons a t ih => exact .cons (.int a) ih
      have hs' : Q (.own (((cutD ns lo' hi').map PyData.int).map Tv.d)) ρ3 := by
        rw [List.map_map]
        exact hs
      exact k.lstD s3 hp this hs'
  · rename_i xs
    obtain ⟨p, vs, rfl, g1, d1⟩ := q1.r.dq.1.tup_of
    refine .inr ⟨p, vs, rfl, (g1.grow s3.gh).sq, fun e => ?_, fun e => k.tup s3 (d1.cut _ _) hs⟩
    have e2 : cutD xs lo' hi' = xs := by
      unfold cutD
      rw [← d1.length, e.1, e.2, List.drop_zero, Nat.sub_zero, d1.length, List.take_length]
    rw [e2] at hs
    exact k.data s3 (.tup g1 d1) hs
  · obtain ⟨xs, e, hq⟩ := hs
    obtain ⟨b', h1⟩ := s3.frozen q1 e
    obtain ⟨p, vs, rfl, g1, d1⟩ := h1.lst_of
    exact .inl ⟨p, vs, rfl, SqL.of (b'.st.gh _ _ g1), fun p' hp => (k.step b').lstD b'.st hp (d1.cut _ _) hq⟩
theorem e_rev {k : Nat} {p1 p2 p3 : Pos} (ha : PE X l (lift X.K w)) : PB X (.Subscript l (.Slice none none (some (.UnaryOp .USub (.Constant (.int 1) k p1) p2)) p3) pos) (fun ρ Q => w ρ fun x ρ1 => revO x fun z => Q z ρ1) := by
  refine .val (PE.imp (pe_revL ha) fun σ H R ⟨F, G, ρ, L, Q, s, hw, k⟩ => ⟨F, G, ρ, L, _, s, hw, fun x v ρ1 G1 H1 L1 M a q ⟨xs, e, hq⟩ => ?_⟩)
  obtain ⟨b, h1⟩ := a.st.frozen q e
  obtain ⟨p, vs, rfl, g1, d1⟩ := h1.lst_of
  exact ⟨p, vs, rfl, SqL.of (b.st.gh _ _ g1), fun p' hp => (Kont.step k (a.trans b)).lstD b.st hp d1.reverse hq⟩

/-! built-ins -/
theorem ints_of {G : Hp} : ∀ {vs : List V} {xs : List PyData} {ns : List Int}, DqAll G vs xs → intsOf xs = some ns → vs = ns.map V.int
  | _, [], _, h, e => by cases h; cases e; rfl
  | _, .int i :: xs, ns, h, e => by
    cases h with
    | cons a t =>
      have e : (intsOf xs).map (i :: ·) = some ns := e
      cases e1 : intsOf xs with
      | none => rw [e1] at e; cases e
      | some ms =>
        rw [e1] at e; cases e
        rw [a.int_of, ints_of t e1]
        rfl
  | _, .none :: _, _, _, e => by cases e
  | _, .bool _ :: _, _, _, e => by cases e
  | _, .str _ :: _, _, _, e => by cases e
  | _, .list _ :: _, _, _, e => by cases e
  | _, .tuple _ :: _, _, _, e => by cases e
  | _, .dict _ :: _, _, _, e => by cases e
theorem bools_of {G : Hp} : ∀ {vs : List V} {xs : List PyData} {ns : List Bool}, DqAll G vs xs → boolsOf xs = some ns → vs = ns.map V.bl
  | _, [], _, h, e => by cases h; cases e; rfl
  | _, .bool i :: xs, ns, h, e => by
    cases h with
    | cons a t =>
      have e : (boolsOf xs).map (i :: ·) = some ns := e
      cases e1 : boolsOf xs with
      | none => rw [e1] at e; cases e
      | some ms =>
        rw [e1] at e; cases e
        rw [a.bl_of, bools_of t e1]
        rfl
  | _, .none :: _, _, _, e => by cases e
  | _, .int _ :: _, _, _, e => by cases e
  | _, .str _ :: _, _, _, e => by cases e
  | _, .list _ :: _, _, _, e => by cases e
  | _, .tuple _ :: _, _, _, e => by cases e
  | _, .dict _ :: _, _, _, e => by cases e
theorem foldl_max_spec : ∀ (ns : List Int) (n : Int), ns.foldl max n ∈ n :: ns ∧ ∀ y ∈ n :: ns, y ≤ ns.foldl max n
  | [], n => ⟨by simp, fun y hy => by simp at hy; simp [hy]⟩
  | a :: ns, n => by
    obtain ⟨h1, h2⟩ := foldl_max_spec ns (max n a)
    refine ⟨?_, fun y hy => ?_⟩
    · show ns.foldl max (max n a) ∈ _
      rcases List.mem_cons.mp h1 with e | e
      · rw [e]
        rcases Int.le_total n a with q | q
        · rw [Int.max_eq_right q]; simp
        · rw [Int.max_eq_left q]; simp
      · simp [e]
    · show y ≤ ns.foldl max (max n a)
      have h0 := h2 (max n a) (by simp)
      rcases List.mem_cons.mp hy with e | e
      · subst e; omega
      · rcases List.mem_cons.mp e with e | e
        · subst e; omega
        · exact h2 y (by simp [e])
theorem foldl_min_spec : ∀ (ns : List Int) (n : Int), ns.foldl min n ∈ n :: ns ∧ ∀ y ∈ n :: ns, ns.foldl min n ≤ y
  | [], n => ⟨by simp, fun y hy => by simp at hy; simp [hy]⟩
  | a :: ns, n => by
    obtain ⟨h1, h2⟩ := foldl_min_spec ns (min n a)
    refine ⟨?_, fun y hy => ?_⟩
    · show ns.foldl min (min n a) ∈ _
      rcases List.mem_cons.mp h1 with e | e
      · rw [e]
        rcases Int.le_total n a with q | q
        · rw [Int.min_eq_left q]; simp
        · rw [Int.min_eq_right q]; simp
      · simp [e]
    · show ns.foldl min (min n a) ≤ y
      have h0 := h2 (min n a) (by simp)
      rcases List.mem_cons.mp hy with e | e
      · subst e; omega
      · rcases List.mem_cons.mp e with e | e
        · subst e; omega
        · exact h2 y (by simp [e])
def Bn.val : Bn → Value
  | .len => .builtin "len" | .abs => .builtin "abs" | .int => .type "int" | .str => .type "str" | .repr => .builtin "repr" | .tuple => .type "tuple" | .list => .type "list" | .sorted => .builtin "sorted" | .sum => .builtin "sum"
  | .any => .builtin "any" | .all => .builtin "all" | .max => .builtin "max" | .min => .builtin "min" | .max2 => .builtin "max" | .min2 => .builtin "min"
def Bn.nm : Bn → Str
  | .len => "len" | .abs => "abs" | .int => "int" | .str => "str" | .repr => "repr" | .tuple => "tuple" | .list => "list" | .sorted => "sorted" | .sum => "sum"
  | .any => "any" | .all => "all" | .max => "max" | .min => "min" | .max2 => "max" | .min2 => "min"
theorem plain_noDict : ∀ d : PyData, d.plain = true → d.hasDict = false := by
  have : ∀ n : Nat, True := fun _ => trivial
  intro d
  exact go d
where
  go : ∀ d : PyData, d.plain = true → d.hasDict = false
    | .none, _ => rfl
    | .bool _, _ => rfl
    | .int _, _ => rfl
    | .str _, _ => rfl
    | .list xs, h => by simp only [PyData.hasDict]; exact goAll xs (by simpa [PyData.plain] using h)
    | .tuple xs, h => by simp only [PyData.hasDict]; exact goAll xs (by simpa [PyData.plain] using h)
    | .dict _, h => by simp [PyData.plain] at h
  goAll : ∀ xs : List PyData, PyData.plainAll xs = true → PyData.hasDictAll xs = false
    | [], _ => rfl
    | x :: xs, h => by
      simp only [PyData.plainAll, Bool.and_eq_true] at h
      simp only [PyData.hasDictAll, Bool.or_eq_false_iff]
      exact ⟨go x h.1, goAll xs h.2⟩
theorem cr_repr (g : X.A.guards = some []) (hu : X.A.units + 200 < cLine) : CallR X (.builtin "repr") (fun vs H R => ∃ v d xs, vs = [v] ∧ Dq H v d ∧ PyData.itemsOf d = some xs ∧ ShowOk d ∧ R (.str d.shown) H) := by
  intro pins s σ H vs us Q I r h
  obtain ⟨v, d, xs, rfl, hd, hi, ok, q⟩ := h
  obtain ⟨u, rfl, rx⟩ := vals1 r
  obtain ⟨as, rd⟩ := hd.reads I rx
  have hp := shal_plain _ _ ok.nd
  have he : ∃ a, u = .ref a := by
    cases hd with
    | lst _ _ => exact ⟨_, rx⟩
    | tup _ _ => exact ⟨_, rx⟩
    | _ => cases hi
  obtain ⟨a, rfl⟩ := he
  exact PySem.repr_of_reads' rd ok.sh (PyData.noDict_hsm (plain_noDict d hp.1)) g (by omega) (fun _ _ e => e) (fun h' u tk hk => ⟨.str d.shown, H, I.kept hk, ⟨u, rfl⟩, q⟩) ok.sz
end
end Tr
set_option Elab.async false
set_option linter.all false
set_option maxRecDepth 100000
set_option maxHeartbeats 1000000
/-! The tree layer, part 8: sets that are sorted at once, sorted, the built-ins' calls. -/
namespace Tr
open PySem PySem.Spec PyProof.Rows L2
/-- a new set -/
abbrev sobj (w : World) : Obj := { cls := .type "set", dict := none, data := .set #[] 0 (.fresh 0 0 (!w.params.followText "set-order")) }
section
variable {P : Program} {w : World} {A : Around} {E : Value → Shared → Prop} {s : Shared}
set_option maxRecDepth 100000 in
set_option maxHeartbeats 3200000 in
theorem set_of_listI {l : Addr} {itms : Array Value} (ns : List Int) {Q : Value → Shared → Prop} (hh : A.handled = none) (hlist : s.heap.IsList l itms) (hints : IntsAre itms.toList ns) (hroom : ns.length + 1 < scanBound)
    (h : ∀ (h' : Heap) (tk c : Nat), SetR w h' s.heap.objs.size (fun j => decide (j ∈ ns)) c → c ≤ ns.length → (∀ b o, s.heap.get? b = some o → h'.get? b = some o) → Q (.ref s.heap.objs.size) { s with heap := h', toks := tk }) :
    wpAny (model P w) A (call (.type "set") [.ref l]) Q E s := by
  have hcount : itms.size = ns.length := by
    have q := IntsAre.length hints
    rw [Array.length_toList] at q
    exact q
  obtain ⟨c, tl, hmro⟩ := F.called_set.mro
  have qmade := F.called_set.made
  have qsub := F.called_set.sub
  refine wpAny_call (codeAny_of_tree ?_)
  show wpAny _ _ (callAny (.type "set") _) _ _ _
  refine wpAny_pure ⟨Code.quiet_builtin _ (by decide +kernel), codeAny_builtin F.entry_type_call ?_⟩
  rw [Around.under_plain (weight_type_call_type "set" [.ref l] []) rfl]
  have h1 := F.called_set.notType
  have h2 := F.called_set.canCreate
  have qcall := F.typeCall_set_1 (.ref l)
  repeat (any_goals (first | assumption | wp_step))

  refine codeAny_mono (code_set_led1 (.ref l) (E := E) (Q₁ := fun obj s₁ => obj = .ref s.heap.objs.size ∧ s₁ = { s with heap := s.heap.push (sobj w) }) ⟨rfl, rfl⟩) fun r s₁ res1 => ?_
  cases r with
  | error e => exact res1
  | ok fl =>
    cases fl with
    | ret obj =>
      obtain ⟨rfl, rfl⟩ := res1
      have got1 : (s.heap.push (sobj w)).get? s.heap.objs.size = some (sobj w) := Heap.get?_push_size _ rfl
      have typ1 : Shared.TypeIs { s with heap := s.heap.push (sobj w) } (.ref s.heap.objs.size) "set" := ⟨_, got1, rfl⟩
      have qlook := F.called_set.init.lookup
      have qbind := F.called_set.init.bind (.ref s.heap.objs.size)
      repeat (any_goals (first | assumption | wp_step))

      refine codeAny_mono (codeAny_call_builtin (R := wants (fun r s₂ => r = .none ∧ ∃ h' tk c, s₂ = { s with heap := h', toks := tk } ∧ SetR w h' s.heap.objs.size (fun j => decide (j ∈ ns)) c ∧ c ≤ ns.length ∧
          (∀ b o, s.heap.get? b = some o → h'.get? b = some o)) E) F.called_set.init.plain F.entry_set_init (check_set_init_1 typ1 ?_)) fun r₂ s₂ res2 => ?_
      · obtain ⟨ol, gotl, hcl, nl, hdl⟩ := hlist
        obtain ⟨ocls, odict, odata, oslots⟩ := ol
        simp only at hcl hdl
        subst hcl; subst hdl
        have gotl2 : (s.heap.push (sobj w)).get? l = some { cls := .type "list", dict := odict, data := .seq itms nl, slots := oslots } := Heap.get?_push_of_some _ gotl
        have qs1 := F.sub_list_set
        have qs2 := F.sub_list_frozenset
        have qne : (Value.type "list" == Value.type "dict") = false := by decide
        have isl1 : (s.heap.push (sobj w)).IsList l itms := ⟨_, gotl2, rfl, nl, rfl⟩
        unfold Builtin.«set.__init__» noKeywords Builtin.Frozenset.updateFrom
        generalize hPI : pyIter = PI
        wp_walk
        subst hPI

        refine wpAny_pyIter_list isl1 ?_
        refine wpAny_bind (wpAny_runValue ?_)
        have ltl : l < s.heap.objs.size := Heap.lt_size gotl
        have calm3 : A.in1.in1.in1.handled = none := by simp [hh]
        have size1 : (s.heap.push (sobj w)).objs.size = s.heap.objs.size + 1 := Heap.size_push ..
        have apart1 : l ≠ (s.heap.push (sobj w)).objs.size := by
          rw [Heap.size_push]; exact Nat.ne_of_lt (Nat.lt_succ_of_lt ltl)
        have apart2 : s.heap.objs.size ∉ [(s.heap.push (sobj w)).objs.size, l] := by
          rw [Heap.size_push]; simp only [List.mem_cons, List.mem_singleton, List.not_mem_nil, or_false, not_or]
          exact ⟨Nat.ne_of_lt (Nat.lt_succ_self _), Nat.ne_of_gt ltl⟩
        have each : ∀ (i : Nat) (v : Value), itms[i]? = some v → ∃ k t, ns[i]? = some k ∧ v = .int k t := fun i v hv => by
          have hi : i < ns.length := by rw [← hcount]; exact (Array.getElem?_eq_some_iff.mp hv).1
          obtain ⟨t, e⟩ := PyProof.Rows.IntsAre.int_at hints i v (by rw [Array.getElem?_toList]; exact hv)
          refine ⟨ns[i], t, List.getElem?_eq_getElem hi, ?_⟩
          rw [e, List.getD_eq_getElem?_getD, List.getElem?_eq_getElem hi] <;> rfl
        refine set_update_ints ((Walks.list calm3 _ l apart1 itms).toS) s.heap.objs.size
          apart2 ns hcount hroom each (itms.size - 0) 0 _ (by omega) (Nat.zero_le _)
          ⟨⟨_, Heap.get?_push_size _ rfl, rfl, rfl⟩, (isl1.push _)⟩ ?hS0 ?hR
        case hS0 =>
          have got0 : ((s.heap.push (sobj w)).push { cls := .type "list_iterator", data := .fields #[.ref l, .int 0 0] }).get? s.heap.objs.size
              = some (sobj w) := Heap.get?_push_of_some _ got1
          exact ⟨0, Nat.le_refl 0, setR_new_at got0⟩
        case hR =>
          intro s' cn mv le1 setA
          obtain ⟨h', g2, d', tk', os'⟩ := s'
          have e1 : g2 = s.gens := mv.gens
          have e2 : d' = s.drawn := mv.drawn
          have e3 : os' = s.os := mv.os
          subst e1; subst e2; subst e3
          show wpAny _ _ _ _ _ _
          refine wpAny_pure ?_
          show wpAny _ _ (ret Value.none) _ _ _
          rw [hcount] at le1
          refine wpAny_pure ⟨rfl, h', tk', cn, rfl, setA, le1, fun b o e => ?_⟩
          have lt0 : b < s.heap.objs.size := Heap.lt_size e
          have ne1 : b ≠ s.heap.objs.size := Nat.ne_of_lt lt0
          have ne2 : b ≠ (s.heap.push (sobj w)).objs.size := by
            rw [Heap.size_push]; exact Nat.ne_of_lt (Nat.lt_succ_of_lt lt0)
          exact mv.heap b o (by simp only [List.mem_cons, List.mem_singleton, List.not_mem_nil, or_false, not_or]; exact ⟨ne1, ne2⟩) (Heap.get?_push_of_some _ (Heap.get?_push_of_some _ e))

      · cases r₂ with
        | error e => exact res2
        | ok fl₂ =>
          cases fl₂ with
          | ret r =>
            obtain ⟨rfl, h', tk, cn, rfl, setA, le1, hk'⟩ := res2
            repeat (any_goals (first | assumption | wp_step))
            exact h _ _ _ setA le1 hk'
          | _ => exact res2.elim
    | _ => exact res1.elim

end
end Tr
set_option Elab.async false
set_option linter.all false
set_option maxRecDepth 100000
set_option maxHeartbeats 1000000
/-! The tree layer, part 8: the built-ins' calls. -/
namespace Tr
open PySem PySem.Spec PyProof.Rows L2
section
variable {X : Cx}
/-- set(xs) of a list or a tuple of ints -/
theorem cr_setI (hc : X.calm = true) : CallR X (.type "set") (fun vs H R => ∃ (p : Addr) (ns : List Int), vs = [.ref p] ∧ (SqL X.K H p (ns.map V.int) ∨ SqT X.K H p (ns.map V.int)) ∧ ns.length ≤ 1000 ∧
    ∀ q c, H q = none → c ≤ ns.length → R (.ref q) (upd H q (SetO X.w q (fun j => decide (j ∈ ns)) c))) := by
  intro pins s σ H vs us Q I r h
  obtain ⟨p, ns, rfl, hq, hl, q⟩ := h
  rw [Vals.ref1 r]
  have hb : ns.length + 1 < scanBound := by unfold scanBound; omega
  have fin : ∀ (h' : Heap) (tk c : Nat), SetR X.w h' s.heap.objs.size (fun j => decide (j ∈ ns)) c → c ≤ ns.length → (∀ b o, s.heap.get? b = some o → h'.get? b = some o) → EP X pins σ Q (.ref s.heap.objs.size) { s with heap := h', toks := tk } := fun h' tk c R hc' hk =>
    ⟨.ref s.heap.objs.size, upd H s.heap.objs.size (SetO X.w s.heap.objs.size (fun j => decide (j ∈ ns)) c), I.laid (t' := tk) hk (Nat.le_refl _) (setO_new R), rfl, q _ c (I.hok.fresh (Nat.le_refl _)) hc'⟩
  rcases hq with hq | hq
  · obtain ⟨its, rv, pl, hz⟩ := I.list hq
    exact set_of_listI ns (I.ok.hd hc) pl.isList (by simpa using rv.ints) hb fin
  · obtain ⟨its, rv, pl, hz⟩ := I.tuple hq
    exact call_set_tupI ns (I.ok.hd hc) pl (by simpa using rv.ints) hb fin

theorem map_snd_zip' {α β : Type} : ∀ {as : List α} {bs : List β}, as.length = bs.length → (as.zip bs).map Prod.snd = bs
  | [], [], _ => rfl
  | a :: as, b :: bs, h => by simp [map_snd_zip' (show as.length = bs.length by simpa using h)]
theorem map_fst_zip' {α β : Type} : ∀ {as : List α} {bs : List β}, as.length = bs.length → (as.zip bs).map Prod.fst = as
  | [], [], _ => rfl
  | a :: as, b :: bs, h => by simp [map_fst_zip' (show as.length = bs.length by simpa using h)]
theorem each_zip {G : Hp} : ∀ {vs : List V} {xs : List PyData} {its : List Value}, DqAll G vs xs → Vals vs its → PySem.W.EachIs (fun (u : Value) (b : V × PyData) => RelV b.1 u ∧ Dq G b.1 b.2) its (vs.zip xs)
  | _, _, _, .nil, .nil => .nil
  | _, _, _, .cons a t, .cons r q => .cons ⟨r, a⟩ (each_zip t q)
theorem zip_each {G : Hp} : ∀ {its : List Value} {bs : List (V × PyData)}, PySem.W.EachIs (fun (u : Value) (b : V × PyData) => RelV b.1 u ∧ Dq G b.1 b.2) its bs → DqAll G (bs.map Prod.fst) (bs.map Prod.snd) ∧ Vals (bs.map Prod.fst) its
  | _, _, .nil => ⟨.nil, .nil⟩
  | _, _, .cons h t => ⟨.cons h.2 (zip_each t).1, .cons h.1 (zip_each t).2⟩
theorem cr_sortedD (hu : X.A.units + 200 < cLine) : CallR X (.builtin "sorted") (fun vs H R => ∃ G v xs, vs = [v] ∧ Same G H ∧ Dq G v (.list xs) ∧ SortOk xs ∧
    ∀ ys p, H p = none → DqAll G ys (xs.mergeSort dle) → R (.ref p) (upd H p (.lst ys))) := by
  intro pins s σ H vs us Q I r h
  obtain ⟨G, v, xs, rfl, g, hd, ok, q⟩ := h
  obtain ⟨a, zs, rfl, ga, da⟩ := hd.lst_of
  rw [Vals.ref1 r]
  obtain ⟨its, rv, pl, hz⟩ := I.list (SqL.of (g _ _ ga))
  have hlen := da.length
  have hsnd : (zs.zip xs).map Prod.snd = xs := map_snd_zip' hlen
  have e := each_zip da rv
  refine PySem.W.sorted_data (bs := zs.zip xs) (enc := Prod.snd) (R := fun u b => RelV b.1 u ∧ Dq G b.1 b.2) pl.isList e (e.mono fun u b ⟨h1, h2⟩ => (h2.grow g).reads I h1) (by rw [hsnd]; exact ok.al) (by rw [hsnd]; exact ok.so) ?_ (fun b hb => ?_) fun out ho eo => ?_
  · rw [List.length_zip, ← hlen, Nat.min_self]
    exact hz
  · have := shal_plain _ _ (ok.sh b.2 (List.of_mem_zip hb).2)
    omega
  · obtain ⟨d1, v1⟩ := zip_each eo
    have e2 : ((zs.zip xs).mergeSort (PySem.W.dataLe false Prod.snd)).map Prod.snd = xs.mergeSort dle := by
      have := PySem.W.sort_maps (r := PySem.W.dataLe false Prod.snd) (s := dle) Prod.snd (l := zs.zip xs) (fun a _ b _ => rfl)
      rw [this, hsnd]
    rw [e2] at d1
    obtain ⟨ep, he'⟩ := PyProof.Rows.sortedAll_at s.heap its (List.toArray out)
    have hl2 : (((zs.zip xs).mergeSort (PySem.W.dataLe false Prod.snd)).map Prod.fst).length ≤ sizeLine := by
      rw [List.length_map, List.length_mergeSort, List.length_zip, ← hlen, Nat.min_self]
      exact hz
    exact ⟨.ref _, upd H (s.heap.objs.size + 1) (.lst (((zs.zip xs).mergeSort (PySem.W.dataLe false Prod.snd)).map Prod.fst)), I.laid (t' := s.toks) (fun _ _ => PyProof.Rows.sortedAll_old) (Nat.le_succ _) ⟨hl2, out, ep, v1, by simpa using he'⟩, rfl,
      q _ _ (I.hok.fresh (Nat.le_succ _)) d1⟩

theorem sum_tupI {P : Program} {w : World} {A : Around} {E : Value → Shared → Prop} {s : Shared} {l : Addr} {its : List Value} {ns : List Int} {Q : Value → Shared → Prop} (hh : A.handled = none) (hl : s.heap.IsTuple l its.toArray) (hi : IntsAre its ns)
    (h : ∀ h' tk t', (∀ b o, s.heap.get? b = some o → h'.get? b = some o) → Q (.int ns.sum t') { s with heap := h', toks := tk }) : wpAny (model P w) A (call (.builtin "sum") [.ref l]) Q E s := by
  obtain ⟨xs, e⟩ := hi.allInts.items
  have hn : numsOf (intItems xs).toList = ns := by rw [← e]; exact hi.numsOf
  rw [nums_intItems] at hn
  rw [e] at hl
  have hlt : l < s.heap.objs.size := by obtain ⟨_, e, _⟩ := hl; exact Heap.lt_size e
  refine PySem.call_sum_walkG (wpAny_pyIter_tuple hl ?_)
  refine ⟨_, _, _, _, _, _, numAt xs, rfl, Walks.tuple (A := A.in1) hh _ l (Nat.ne_of_lt hlt) (intItems xs), ⟨⟨_, Heap.get?_push_size _ rfl, rfl, rfl⟩, hl.push _⟩, fun b hb => ?_, (fun _ _ => intItems_at), fun h' tk t' hk => ?_⟩
  · show b < (s.heap.push _).objs.size
    rw [Heap.size_push]
    rcases List.mem_cons.mp hb with rfl | hb
    · exact Nat.lt_succ_self _
    · rcases List.mem_cons.mp hb with rfl | hb
      · exact Nat.lt_succ_of_lt hlt
      · cases hb
  · have := h h' tk t' fun b o eo => hk b o (fun hb => absurd (Heap.lt_size eo) ((List.mem_singleton.mp hb) ▸ Nat.lt_irrefl _)) (Heap.get?_push_of_some _ eo)
    have e2 : preSum (numAt xs) (intItems xs).size = ns.sum := by
      rw [preSum_eq, List.take_of_length_le (by simp [intItems]), hn]
    rw [e2]
    exact this
theorem cr_sumT (hc : X.calm = true) : CallR X (.builtin "sum") (fun vs H R => ∃ (a : Addr) (ns : List Int), vs = [V.ref a] ∧ SqT X.K H a (ns.map V.int) ∧ R (.int ns.sum) H) := by
  intro pins s σ H vs us Q I r h
  obtain ⟨a, ns, rfl, hs, q⟩ := h
  obtain ⟨its, rv, hl, _⟩ := I.tuple hs
  rw [Vals.ref1 r]
  exact sum_tupI (I.ok.hd hc) hl rv.ints fun h' tk t' hk => ⟨.int ns.sum, H, I.kept hk, ⟨t', rfl⟩, q⟩
end
end Tr
set_option Elab.async false
set_option linter.all false
set_option maxRecDepth 100000
set_option maxHeartbeats 1000000
/-! The tree layer, part 9: calls of built-ins. -/
namespace Tr
open PySem PySem.Spec PyProof.Rows L2
section
variable {Γ : Gam} {N : List Str} {sc : Scope} {X : Cx} {l r : Expr} {pos px : Pos} {w w1 w2 : WE}
def Bn.scal : Bn → Bool
  | .len | .abs | .int | .str | .repr | .sum | .any | .all | .max | .min => true
  | _ => false
theorem items_dq {K : PySem.W.Frag} {H : Hp} {v : V} {d : PyData} {xs : List PyData} (h : Dq H v d) (e : PyData.itemsOf d = some xs) : ∃ p vs, v = .ref p ∧ (SqL K H p vs ∨ SqT K H p vs) ∧ DqAll H vs xs := by
  cases h with
  | lst h1 h2 => cases e; exact ⟨_, _, rfl, .inl (SqL.of h1), h2⟩
  | tup h1 h2 => cases e; exact ⟨_, _, rfl, .inr h1.sq, h2⟩
  | _ => cases e
theorem OR.nowS {K : PySem.W.Frag} {G H : Hp} {v : V} {d : PyData} {M : List Addr} (g : Same G H) (r : OR K G H (.d d) v M) : Dq H v d := r.now g rfl
/-- a built-in whose value is a number, a truth value or a text, of what stands now -/
theorem e_bltv (g : Gd Γ N sc X) (b : Bn) (hb : b.scal = true) {f : Str} (hf : f = b.nm) (hg : glB sc f = true) (ha : PE X l (liftR X.K w)) (pl : plainE l = true) :
    PB X (.Call (.Name f px) [l] [] pos) (fun ρ Q => w ρ fun x ρ1 => bltO b [x] fun z => Q z ρ1) := by
  subst hf
  have sp := starEach_plain (es := []) (env := X.env) pl
  have gl := g.glo hg
  have pa : PA X [l] (tCons (liftR X.K w) tNil) := pa_cons ha pa_nil sp
  have use : ∀ {r : List V → Hp → VK → Prop} {σ : L2.St} {H : Hp} {R : VK}, lift X.K (fun ρ Q => w ρ fun x ρ1 => bltO b [x] fun z => Q z ρ1) σ H R →
      (∀ F G ρ L x v M Q H1 R', Sta X.K F G H1 ρ σ L → OR X.K G H1 x v M → bltO b [x] (fun z => Q z ρ) → Kont X.K F G σ Q R' → r [v] H1 R') → tCB r (tCons (liftR X.K w) tNil) σ H R := by
    rintro r σ H R ⟨F, G, ρ, L, Q, s, hw, k⟩ hr
    exact ⟨F, G, ρ, L, _, s, hw, fun x v ρ1 G1 H1 L1 M a q hB => hr F G1 ρ1 L1 x v M Q H1 R a.st q hB (Kont.step k a)⟩
  cases b with
  | len =>
    refine .val (PE.imp (pe_callB call_len_seq gl (g.bl _ (by decide)) (by decide +kernel) pa (by decide) (by decide) sp rfl) fun σ H R h => use h fun F G ρ L x v M Q H1 R' s q hB k => ?_)
    obtain ⟨x', n, e, hl, hq⟩ := hB
    cases e
    obtain ⟨p, vs, rfl, hs, hn⟩ := len_at s.gh q hl
    exact ⟨p, vs, rfl, hs, by rw [hn]; exact k.data s (.int _) hq⟩
  | abs =>
    refine .val (PE.imp (pe_callB call_abs gl (g.bl _ (by decide)) (by decide +kernel) pa (by decide) (by decide) sp rfl) fun σ H R h => use h fun F G ρ L x v M Q H1 R' s q hB k => ?_)
    obtain ⟨i, e, hq⟩ := hB
    cases e
    exact ⟨i, by rw [(q.nowS s.gh).int_of], k.data s (.int _) hq⟩
  | int =>
    refine .val (PE.imp (pe_callTy call_int1 gl (g.bl _ (by decide)) (by decide +kernel) pa (by decide) (by decide) sp rfl) fun σ H R h => use h fun F G ρ L x v M Q H1 R' s q hB k => ?_)
    obtain ⟨d, i, e, hi, hq⟩ := hB
    cases e
    cases d with
    | int j => cases hi; exact .inl ⟨_, by rw [(q.nowS s.gh).int_of], k.data s (.int _) hq⟩
    | bool c => cases hi; exact .inr ⟨_, by rw [(q.nowS s.gh).bl_of], k.data s (.int _) hq⟩
    | _ => cases hi
  | str =>
    refine .val (PE.imp (pe_callTy call_str_int gl (g.bl _ (by decide)) (by decide +kernel) pa (by decide) (by decide) sp rfl) fun σ H R h => use h fun F G ρ L x v M Q H1 R' s q hB k => ?_)
    obtain ⟨i, e, hz, hq⟩ := hB
    cases e
    exact ⟨i, by rw [(q.nowS s.gh).int_of], hz, k.data s (.str _) hq⟩
  | repr =>
    refine .val (PE.imp (pe_callB (cr_repr g.gd g.un) gl (g.bl _ (by decide)) (by decide +kernel) pa (by decide) (by decide) sp rfl) fun σ H R h => use h fun F G ρ L x v M Q H1 R' s q hB k => ?_)
    obtain ⟨x', d, xs, e, hd, hi, ok, hq⟩ := hB
    cases e
    exact ⟨v, d, xs, rfl, q.now s.gh hd, hi, ok, k.data s (.str _) hq⟩
  | sum =>
    refine .val (PE.imp (pe_callB ((cr_sum g.calm).or (cr_sumT g.calm)) gl (g.bl _ (by decide)) (by decide +kernel) pa (by decide) (by decide) sp rfl) fun σ H R h => use h fun F G ρ L x v M Q H1 R' s q hB k => ?_)
    obtain ⟨x', d, xs, ns, e, hd, hi, hn, hq⟩ := hB
    cases e
    obtain ⟨p, vs, rfl, hs, ha⟩ := items_dq (K := X.K) (q.now s.gh hd) hi
    have e1 := ints_of ha hn
    subst e1
    rcases hs with hs | hs
    · exact .inl ⟨p, ns, rfl, hs, k.data s (.int _) hq⟩
    · exact .inr ⟨p, ns, rfl, hs, k.data s (.int _) hq⟩
  | any =>
    refine .val (PE.imp (pe_callB (cr_any g.calm) gl (g.bl _ (by decide)) (by decide +kernel) pa (by decide) (by decide) sp rfl) fun σ H R h => use h fun F G ρ L x v M Q H1 R' s q hB k => ?_)
    obtain ⟨x', xs, ns, e, hd, hn, hq⟩ := hB
    cases e
    obtain ⟨p, vs, rfl, hs, ha⟩ := (q.now s.gh hd).lst_of
    have e1 := bools_of ha hn
    subst e1
    exact ⟨p, ns, rfl, SqL.of hs, k.data s (.bl _) hq⟩
  | all =>
    refine .val (PE.imp (pe_callB (cr_all g.calm) gl (g.bl _ (by decide)) (by decide +kernel) pa (by decide) (by decide) sp rfl) fun σ H R h => use h fun F G ρ L x v M Q H1 R' s q hB k => ?_)
    obtain ⟨x', xs, ns, e, hd, hn, hq⟩ := hB
    cases e
    obtain ⟨p, vs, rfl, hs, ha⟩ := (q.now s.gh hd).lst_of
    have e1 := bools_of ha hn
    subst e1
    exact ⟨p, ns, rfl, SqL.of hs, k.data s (.bl _) hq⟩
  | max =>
    refine .val (PE.imp (pe_callB (cr_max g.calm) gl (g.bl _ (by decide)) (by decide +kernel) pa (by decide) (by decide) sp rfl) fun σ H R h => use h fun F G ρ L x v M Q H1 R' s q hB k => ?_)
    obtain ⟨x', xs, n, ns, e, hd, hn, hq⟩ := hB
    cases e
    obtain ⟨p, vs, rfl, hs, ha⟩ := (q.now s.gh hd).lst_of
    have e1 := ints_of ha hn
    subst e1
    refine ⟨p, n :: ns, rfl, SqL.of hs, by simp, fun m hm hall => ?_⟩
    obtain ⟨f1, f2⟩ := foldl_max_spec ns n
    have em : m = ns.foldl max n := Int.le_antisymm (f2 m hm) (hall _ f1)
    rw [em]
    exact k.data s (.int _) hq
  | min =>
    refine .val (PE.imp (pe_callB (cr_min g.calm) gl (g.bl _ (by decide)) (by decide +kernel) pa (by decide) (by decide) sp rfl) fun σ H R h => use h fun F G ρ L x v M Q H1 R' s q hB k => ?_)
    obtain ⟨x', xs, n, ns, e, hd, hn, hq⟩ := hB
    cases e
    obtain ⟨p, vs, rfl, hs, ha⟩ := (q.now s.gh hd).lst_of
    have e1 := ints_of ha hn
    subst e1
    refine ⟨p, n :: ns, rfl, SqL.of hs, by simp, fun m hm hall => ?_⟩
    obtain ⟨f1, f2⟩ := foldl_min_spec ns n
    have em : m = ns.foldl min n := Int.le_antisymm (hall _ f1) (f2 m hm)
    rw [em]
    exact k.data s (.int _) hq
  | _ => cases hb
/-- tuple(x), list(x), sorted(x), and the others of a value -/
theorem e_blt1 (g : Gd Γ N sc X) (b : Bn) (hb : b ≠ .max2 ∧ b ≠ .min2) {f : Str} (hf : f = b.nm) (hg : glB sc f = true) (ha : PE X l (lift X.K w)) (pl : plainE l = true) :
    PB X (.Call (.Name f px) [l] [] pos) (fun ρ Q => w ρ fun x ρ1 => bltO b [x] fun z => Q z ρ1) := by
  by_cases hs : b.scal = true
  · exact e_bltv g b hs hf hg (PE.imp ha fun _ _ _ q => liftR_of q) pl
  subst hf
  have sp := starEach_plain (es := []) (env := X.env) pl
  have gl := g.glo hg
  have pa : PA X [l] (tCons (lift X.K w) tNil) := pa_cons ha pa_nil sp
  have use : ∀ {r : List V → Hp → VK → Prop} {σ : L2.St} {H : Hp} {R : VK}, lift X.K (fun ρ Q => w ρ fun x ρ1 => bltO b [x] fun z => Q z ρ1) σ H R →
      (∀ F G ρ L x v M Q H1 R', Sta X.K F G H1 ρ σ L → Val X.K F G H1 L x v M → bltO b [x] (fun z => Q z ρ) → Kont X.K F G σ Q R' → r [v] H1 R') → tCB r (tCons (lift X.K w) tNil) σ H R := by
    rintro r σ H R ⟨F, G, ρ, L, Q, s, hw, k⟩ hr
    exact ⟨F, G, ρ, L, _, s, hw, fun x v ρ1 G1 H1 L1 M a q hB => hr F G1 ρ1 L1 x v M Q H1 R a.st q hB (Kont.step k a)⟩
  cases b with
  | tuple =>
    refine .val (PE.imp (pe_callTy cf_tuple gl (g.bl _ (by decide)) (by decide +kernel) pa (by decide) (by decide) sp rfl) fun σ H R h => use h fun F G ρ L x v M Q H1 R' s q hB k => ?_)
    obtain ⟨x', d, xs, e, hd, hi, hq⟩ := hB
    cases e
    obtain ⟨a, dq⟩ := s.frozen q hd
    cases dq with
    | lst h1 h2 => cases hi; exact ⟨_, _, rfl, .inl ⟨SqL.of (a.st.gh _ _ h1), (k.step a).tup a.st h2 hq⟩⟩
    | tup h1 h2 => cases hi; exact ⟨_, _, rfl, .inr ⟨(h1.grow a.st.gh).sq, (k.step a).data a.st (.tup h1 h2) hq⟩⟩
    | _ => cases hi
  | list =>
    refine .val (PE.imp (pe_callTy call_list_of gl (g.bl _ (by decide)) (by decide +kernel) pa (by decide) (by decide) sp rfl) fun σ H R h => use h fun F G ρ L x v M Q H1 R' s q hB k => ?_)
    obtain ⟨x', d, xs, e, hd, hi, hq⟩ := hB
    cases e
    obtain ⟨a, dq⟩ := s.frozen q hd
    cases dq with
    | lst h1 h2 => cases hi; exact ⟨_, _, rfl, .inl (SqL.of (a.st.gh _ _ h1)), fun p hp => (k.step a).lstD a.st hp h2 hq⟩
    | tup h1 h2 => cases hi; exact ⟨_, _, rfl, .inr ((h1.grow a.st.gh).sq), fun p hp => (k.step a).lstD a.st hp h2 hq⟩
    | _ => cases hi
  | sorted =>
    refine .val (PE.imp (pe_callB (cr_sortedD g.un) gl (g.bl _ (by decide)) (by decide +kernel) pa (by decide) (by decide) sp rfl) fun σ H R h => use h fun F G ρ L x v M Q H1 R' s q hB k => ?_)
    obtain ⟨x', xs, e, hd, ok, hq⟩ := hB
    cases e
    obtain ⟨a, dq⟩ := s.frozen q hd
    exact ⟨_, v, xs, rfl, a.st.gh, dq, ok, fun ys p hp hy => (k.step a).lstD a.st hp hy hq⟩
  | max2 => exact absurd rfl hb.1
  | min2 => exact absurd rfl hb.2
  | _ => exact absurd rfl hs
theorem e_blt2 (g : Gd Γ N sc X) (b : Bn) (hb : b = .max2 ∨ b = .min2) {f : Str} (hf : f = b.nm) (hg : glB sc f = true) (ha : PE X l (lift X.K w1)) (hc : PE X r (lift X.K w2)) (pl : plainE l = true) (pr : plainE r = true) :
    PB X (.Call (.Name f px) [l, r] [] pos) (fun ρ Q => w1 ρ fun x ρ1 => w2 ρ1 fun y ρ2 => bltO b [x, y] fun z => Q z ρ2) := by
  subst hf
  have sp := starEach_plain (es := []) (env := X.env) pr
  have sp2 := starEach_plain (es := [r]) (env := X.env) pl
  have gl := g.glo hg
  have pa : PA X [l, r] (tCons (lift X.K w1) (tCons (lift X.K w2) tNil)) := pa_cons ha (pa_cons hc pa_nil sp) sp2
  have hpl : (backTo pos (starEach [r] X.env)).any (·.1) = false := by rw [sp]; rfl
  rcases hb with rfl | rfl
  · refine .val (PE.imp (pe_callB (call_max2 g.calm) gl (g.bl _ (by decide)) (by decide +kernel) pa (by decide) (by decide) sp2 hpl) fun σ H R h => two_of (r := fun v u H R => ∃ i j, [v, u] = [.int i, .int j] ∧ R (.int (if j > i then j else i)) H) h fun v u H2 ⟨F, G, ρ, L, x, y, M, N', Q, s, q, q2, ap, ⟨i, j, e, hq⟩, k⟩ => ?_)
    cases e
    exact ⟨i, j, by rw [q.r.dq.1.int_of, q2.r.dq.1.int_of], k.data s (.int _) hq⟩
  · refine .val (PE.imp (pe_callB (call_min2 g.calm) gl (g.bl _ (by decide)) (by decide +kernel) pa (by decide) (by decide) sp2 hpl) fun σ H R h => two_of (r := fun v u H R => ∃ i j, [v, u] = [.int i, .int j] ∧ R (.int (if j < i then j else i)) H) h fun v u H2 ⟨F, G, ρ, L, x, y, M, N', Q, s, q, q2, ap, ⟨i, j, e, hq⟩, k⟩ => ?_)
    cases e
    exact ⟨i, j, by rw [q.r.dq.1.int_of, q2.r.dq.1.int_of], k.data s (.int _) hq⟩
theorem ints_dq {G : Hp} : ∀ ns : List Int, DqAll G (ns.map V.int) (ns.map PyData.int)
  | [] => .nil
  | n :: ns => .cons (.int n) (ints_dq ns)
/-- sorted(set(x)) of ints -/
theorem e_sortset (g : Gd Γ N sc X) {f f2 : Str} {p2 p3 : Pos} (hf : f = "sorted") (hf2 : f2 = "set") (hg : glB sc f = true) (hg2 : glB sc f2 = true) (ha : PE X l (liftR X.K w)) (pl : plainE l = true) :
    PB X (.Call (.Name f px) [.Call (.Name f2 p2) [l] [] p3] [] pos) (fun ρ Q => w ρ fun x ρ1 => ∃ d xs ns, x.frz = some d ∧ PyData.itemsOf d = some xs ∧ intsOf xs = some ns ∧ ns.length < 64 ∧ ∀ ms, isSortSet ns ms → Q (.own (ms.map fun n => .d (.int n))) ρ1) := by
  subst hf
  subst hf2
  have sp := starEach_plain (es := []) (env := X.env) pl
  have pa : PA X [l] (tCons (liftR X.K w) tNil) := pa_cons ha pa_nil sp
  have pe1 := pe_callTy (p := p2) (pos := p3) (cr_setI g.calm) (g.glo hg2) (g.bl _ (by decide)) (by decide +kernel) pa (by decide) (by decide) sp rfl
  refine .val (PE.imp (pe_callB (cr_sortedSet g.calm) (g.glo hg) (g.bl _ (by decide)) (by decide +kernel) (pa_cons pe1 pa_nil) (by decide) (by decide) rfl rfl) fun σ H R ⟨F, G, ρ, L, Q, s, hw, k⟩ => ?_)
  refine ⟨F, G, ρ, L, _, s, hw, fun x v ρ1 G1 H1 L1 M a r ⟨d, xs, ns, hd, hi, hn, h64, hq⟩ => ?_⟩
  obtain ⟨p, vs, rfl, hs, hv⟩ := items_dq (K := X.K) (r.now a.st.gh hd) hi
  have e1 := ints_of hv hn
  subst e1
  refine ⟨p, ns, rfl, hs, by omega, fun q c hq0 hc => ?_⟩
  have b := a.st.made (o := SetO X.w q (fun j => decide (j ∈ ns)) c) hq0
  refine ⟨q, _, c, rfl, upd_same, by omega, fun ms p' hp hm hl hp' => ?_⟩
  have e2 : (ms.map PyData.int).map Tv.d = ms.map fun n => .d (.int n) := by rw [List.map_map]; rfl
  refine (Kont.step k (a.trans b)).lstD b.st hp' (ints_dq ms) ?_
  rw [e2]
  exact hq ms ⟨hp, fun n => by rw [hm n]; simp⟩
end
end Tr
set_option Elab.async false
set_option linter.all false
set_option maxRecDepth 100000
set_option maxHeartbeats 2000000
/-! The tree layer, part 10: enumerate and zip over lists and tuples alike. -/
namespace Tr
open PySem PySem.Spec PyProof.Rows L2
def SqB (b : Bool) (K : PySem.W.Frag) (H : Hp) (a : Addr) (xs : List V) : Prop := match b with
  | true => SqT K H a xs
  | false => SqL K H a xs
def IsItB (b : Bool) (h : Heap) (it a : Addr) (i : Nat) : Prop := match b with
  | true => h.IsTupleIter it a i
  | false => h.IsListIter it a i
def itObj (b : Bool) (a : Addr) : Obj := match b with
  | true => { cls := .type "tuple_iterator", data := .fields #[.ref a, .int 0 0] }
  | false => { cls := .type "list_iterator", data := .fields #[.ref a, .int 0 0] }
theorem IsItB.at {b : Bool} {h h' : Heap} {it a : Addr} {i : Nat} (q : IsItB b h it a i) (k : ∀ o, h.get? it = some o → h'.get? it = some o) : IsItB b h' it a i := by
  cases b with
  | true => exact Heap.IsTupleIter.at (h := h) q k
  | false => exact Heap.IsListIter.at (h := h) q k
theorem IsItB.obj {b : Bool} {h : Heap} {it a : Addr} {i : Nat} (q : IsItB b h it a i) : ∃ o, h.get? it = some o ∧ ∀ v, o.data ≠ .cell v := by
  cases b with
  | true =>
    obtain ⟨o, e, _, d⟩ := (show h.IsTupleIter it a i from q)
    exact ⟨o, e, fun v z => by rw [d] at z; cases z⟩
  | false =>
    obtain ⟨o, e, _, d⟩ := (show h.IsListIter it a i from q)
    exact ⟨o, e, fun v z => by rw [d] at z; cases z⟩
theorem isIt_new {b : Bool} {h : Heap} {it a : Addr} (e : h.get? it = some (itObj b a)) : IsItB b h it a 0 := by
  cases b with
  | true => exact ⟨_, e, rfl, rfl⟩
  | false => exact ⟨_, e, rfl, rfl⟩
theorem itObj_free {b : Bool} {a : Addr} : (itObj b a).isFreed = false := by cases b <;> rfl
section
variable {X : Cx} {pins : List (Addr × Obj)} {σ : L2.St} {H : Hp} {s : Shared} {b : Bool} {a it : Addr} {xs : List V}
/-- what an iterator at it over the items at a draws -/
theorem draws_of (hh : X.A.handled = none) (I : Inv X pins σ H s) (q : SqB b X.K H a xs) (hne : a ≠ it) : ∃ (its : List Value) (St : Nat → Heap → Prop), Vals xs its ∧
    Draws X.prog X.w X.A.in1 it [it, a] its.length (fun i v => its[i]? = some v) St ∧ (∀ i, IsItB b s.heap it a i → St i s.heap) ∧ ∀ i h, St i h → IsItB b h it a i := by
  cases b with
  | true =>
    obtain ⟨its, rv, p, _⟩ := I.tuple q
    have D := Draws.tuple (prog := X.prog) (w := X.w) (A := X.A.in1) hh it a hne its.toArray
    refine ⟨its, fun i h => h.IsTupleIter it a i ∧ h.IsTuple a its.toArray, rv, by simpa using D, fun i h => ⟨h, p⟩, fun i h st => st.1⟩
  | false =>
    obtain ⟨its, rv, p, _⟩ := I.list q
    have D := Draws.list (prog := X.prog) (w := X.w) (A := X.A.in1) hh it a hne its.toArray
    refine ⟨its, fun i h => h.IsListIter it a i ∧ h.IsList a its.toArray, rv, by simpa using D, fun i h => ⟨h, p.isList⟩, fun i h st => st.1⟩
theorem SqB.inj (I : Inv X pins σ H s) {ys : List V} (h1 : SqB b X.K H a ys) (h2 : SqB b X.K H a xs) : ys = xs := by
  cases b with
  | true => exact I.tuple_inj h1 h2
  | false => exact I.list_inj h1 h2
theorem begins_of (I : Inv X pins σ H s) (q : SqB b X.K H a xs) : ∃ Hb, Begins (.ref a) (itObj b a) Hb ∧ Hb s.heap ∧ a < s.heap.objs.size := by
  cases b with
  | true =>
    obtain ⟨its, rv, p, _⟩ := I.tuple q
    obtain ⟨o1, ho1, _⟩ := id p
    exact ⟨_, begins_tuple a its.toArray, p, Heap.lt_size ho1⟩
  | false =>
    obtain ⟨its, rv, p, _⟩ := I.list q
    exact ⟨_, begins_list a its.toArray, p.isList, p.lt⟩
end

/-! ### enumerate -/
def IteB (b : Bool) (K : PySem.W.Frag) (a : Addr) : L2.It :=
  ⟨fun i H => ∃ (xs : List V) (x : V), SqB b K H a xs ∧ xs[i]? = some x, fun i H v H' => ∃ T o x, v = .ref T ∧ H T = none ∧ o.dict = none ∧ H' = upd H T (.frz o (.tup [.int (i : Nat), x])) ∧ ∀ xs, SqB b K H a xs → xs[i]? = some x, fun i H => ∃ xs : List V, SqB b K H a xs ∧ xs.length = i⟩
theorem turn_enumB {P : Program} {w : World} {K : PySem.W.Frag} {elts : List Expr} {kk : Nat} {tpos : Pos} (b : Bool) (a e it : Addr) :
    Turn P w K (.Tuple elts kk tpos) (IteB b K a) [e, it] e (fun i h => (∃ old, IsEnum h e it ((i : Nat) : Int) old) ∧ IsItB b h it a i ∧ e ≠ it ∧ a ≠ it ∧ e ≠ a) where
  mem := by simp
  obj := fun i h st c hb => by
    obtain ⟨⟨old, he⟩, hit, _⟩ := st
    have e' : c = e ∨ c = it := by simpa using hb
    rcases e' with z | z
    · rw [z]; exact ⟨_, he, fun v q => nomatch q⟩
    · rw [z]; exact hit.obj
  keep := fun i h h' st k => let ⟨⟨old, he⟩, hi, hne⟩ := st; ⟨⟨old, k e (by simp) _ he⟩, hi.at fun o q => k it (by simp) o q, hne⟩
  item := by
    intro X hP hw hK hc i pins s σ H E I hf st hg
    subst hP hw hK
    obtain ⟨⟨old, he⟩, hit, hne, hai, hea⟩ := st
    obtain ⟨xs, x, hq, hx⟩ := hg
    obtain ⟨its, St, rv, D, d1, d2⟩ := draws_of (I.ok.hd hc) I hq hai
    obtain ⟨u, hu, ru⟩ := rv.get hx
    have hel : e < s.heap.objs.size := Heap.lt_size he
    have hil : it < s.heap.objs.size := by obtain ⟨_, q, _⟩ := hit.obj; exact Heap.lt_size q
    have hlt : i < its.length := (List.getElem?_eq_some_iff.mp hu).1
    refine wpAny_pyNext_enum_itemD D he (d1 i hit) hlt hne (by simp [hne, hea]) fun u' h' tk hu' ho hit' hT hsz hk => ?_
    rw [hu] at hu'
    cases hu'
    refine ⟨_, rfl, wpAny_letOwnedTupleGo_enum (s := { s with heap := h', toks := tk + 1 }) ho fun h'' he' sb => ?_⟩
    have hT2 : h''.get? s.heap.objs.size = some { cls := .type "tuple", data := .seq #[.int i tk, u] } := (sb.2 _ (Nat.ne_of_gt hel)).trans hT
    have new : ObjOk X.prog X.w (upd H s.heap.objs.size (.frz { cls := .type "tuple", data := .seq #[.int i tk, u] } (.tup [.int (i : Nat), x]))) h'' s.heap.objs.size (.frz { cls := .type "tuple", data := .seq #[.int i tk, u] } (.tup [.int (i : Nat), x])) :=
      ⟨hT2, by show 2 ≤ sizeLine; decide, [.int i tk, u], .cons ⟨_, rfl⟩ (.cons ru .nil), ⟨_, hT2, rfl, _, rfl⟩⟩
    have I1 : Inv X pins σ (upd H s.heap.objs.size (.frz { cls := .type "tuple", data := .seq #[.int i tk, u] } (.tup [.int (i : Nat), x]))) { s with heap := h'', toks := tk + 1 } :=
      I.turnedNew (ch := [e, it]) (fun c ob hb q => (sb.2 c (fun z => hb (by simp [z]))).trans (hk c ob (fun z => hb (by simp [z])) (fun z => hb (by simp [z])) q)) hf (Nat.le_refl _) new
    refine ⟨.ref s.heap.objs.size, _, I1, rfl, ⟨_, _, x, rfl, I.hok.fresh (Nat.le_refl _), rfl, rfl, fun ys hy => by rw [hy.inj I hq]; exact hx⟩, ⟨⟨u, ?_⟩, (d2 _ _ hit').at fun o q => (sb.2 it (Ne.symm hne)).trans q, hne, hai, hea⟩, fun c hb => ?_⟩
    · have e1 : ((i + 1 : Nat) : Int) = (i : Int) + 1 := by omega
      rw [e1]; exact he'
    · have hb' : c < s.heap.objs.size := by
        have e' : c = e ∨ c = it := by simpa using hb
        rcases e' with z | z
        · rw [z]; exact hel
        · rw [z]; exact hil
      rw [upd_ne (Nat.ne_of_lt hb')]
      exact (hf c hb).1
  done := by
    intro X hP hw hK hc i pins s σ H E I hf st hg
    subst hP hw hK
    obtain ⟨⟨old, he⟩, hit, hne, hai, hea⟩ := st
    obtain ⟨xs, hq, hx⟩ := hg
    obtain ⟨its, St, rv, D, d1, d2⟩ := draws_of (I.ok.hd hc) I hq hai
    obtain ⟨f0, f1, f2, f3, f4, f5⟩ := hf it (by simp)
    have hl := rv.length
    have hi : i = its.length := by omega
    subst hi
    exact wpAny_pyNext_enum_endD D he (d1 _ hit) fun h' eb => ⟨rfl, I.turned (t' := s.toks) (fun c o hb q => eb c o hb q) f0 f1 f3 f4 f5⟩
  self := fun A i s Q E st h => let ⟨⟨_, he⟩, _⟩ := st; wpAny_pyIter_enum he h

theorem meets_enum1 {v : Value} {o : Obj} {H : Heap → Prop} (B : Begins v o H) :
    Meets (Builtin.«enumerate.__new__» ⟨[.type "enumerate", v], []⟩) (fun _ R s => H s.heap ∧
      R (.ok (.ret (.ref (s.heap.push o).objs.size))) { s with heap := (s.heap.push o).push { cls := .type "enumerate", data := .fields #[.none, .bool false, .ref s.heap.objs.size, rawInt 0, .none, .none] } }) :=
  .of_wp fun prog w A R s h => by
    obtain ⟨hp, g, d, tk, os⟩ := s; obtain ⟨h1, h⟩ := h
    have hsub := sub_enumerate
    have q1 : ∀ {A' : Around} {E : Value → Shared → Prop} {Q : Value → Shared → Prop}, Q (.ref hp.objs.size) ⟨hp.push o, g, d, tk, os⟩ → wpAny (model prog w) A' (pyIter v) Q E ⟨hp, g, d, tk, os⟩ :=
      fun q => B.iter prog w _ _ ⟨hp, g, d, tk, os⟩ _ h1 q
    wp_walk using q1
    refine wpAny_stack_any fun st => wpAny_pure ?_
    split
    · rename_i c _ _ _ _ _
      cases (c == Value.type "enumerate")
      · wp_walk using q1
        exact ⟨_, rfl, h⟩
      · wp_walk using q1
        exact ⟨_, rfl, h⟩
    · wp_walk using q1
      exact ⟨_, rfl, h⟩
theorem enum_begins1 {prog : Program} {w : World} {A : Around} {E : Value → Shared → Prop} {s : Shared} {v : Value} {o : Obj} {H : Heap → Prop} {Q : Value → Shared → Prop} (B : Begins v o H) (h1 : H s.heap)
    (h : ∀ h', IsEnum h' (s.heap.objs.size + 1) s.heap.objs.size 0 .none → h'.get? s.heap.objs.size = some o → h'.objs.size = s.heap.objs.size + 2 →
      (∀ b o, s.heap.get? b = some o → h'.get? b = some o) → Q (.ref (s.heap.objs.size + 1)) { s with heap := h' }) :
    wpAny (model prog w) A (call (.type "enumerate") [v]) Q E s := by
  refine callType_new F.called_enumerate (by decide) (F.typeCall_enumerate_1 _) (F.newCall_enumerate_1 _) (fun obj => F.args_object_init_2 obj _) F.entry_enumerate_new
    (meets_enum1 B) ⟨h1, ?_⟩
  have hz : (s.heap.push o).objs.size = s.heap.objs.size + 1 := Heap.size_push ..
  show _ ∧ _
  rw [hz]
  have he : IsEnum ((s.heap.push o).push { cls := .type "enumerate", data := .fields #[.none, .bool false, .ref s.heap.objs.size, rawInt 0, .none, .none] }) (s.heap.objs.size + 1) s.heap.objs.size 0 .none := by
    have := Heap.get?_push_size (s.heap.push o) (o := { cls := .type "enumerate", data := .fields #[.none, .bool false, .ref s.heap.objs.size, rawInt 0, .none, .none] }) rfl
    rw [hz] at this; exact this
  refine ⟨⟨_, he, rfl⟩, h _ he (Heap.get?_push_of_some _ (Heap.get?_push_size _ B.free)) (by rw [Heap.size_push, hz]) fun b o x => Heap.get?_push_of_some _ (Heap.get?_push_of_some _ x)⟩
def iEnumB (K : PySem.W.Frag) (ta : TA) : TI := fun σ H R => ta σ H fun vs H1 => ∃ b a xs, vs = [.ref a] ∧ SqB b K H1 a xs ∧ R (IteB b K a) H1
theorem pi_enumB {X : Cx} {e : Expr} {ta : TA} {p pos tpos : Pos} {elts : List Expr} {kk : Nat} (hg : Gl X "enumerate") (hm : X.mg "enumerate" = none) (ha : PA X [e] ta) (hs : starEach [e] X.env = [(false, eval e X.env)] := by rfl) :
    PI X (.Tuple elts kk tpos) (.Call (.Name "enumerate" p) [e] [] pos) (iEnumB X.K ta) := by
  refine ⟨fun pins s σ H R I h => ?_⟩
  refine Call_ (ld_blt I hg hm boot_enumerate (PyProof.Rows.callWith_type1 (thn (ha.run pos pins s σ H _ I h) fun us s1 ⟨vs, H1, I1, r1, q1⟩ => ?_) hs rfl))
  obtain ⟨bb, a, xs, ex, hq, q⟩ := q1
  subst ex
  cases r1 with
  | cons r rr =>
    cases rr
    cases r
    obtain ⟨Hb, B, hB, hal⟩ := begins_of I1 hq
    refine enum_begins1 B hB fun h' he hit hsz hk => wpAny_pyIter_enum he ?_
    have I2 : Inv X pins σ H1 { s1 with heap := h' } := I1.kept (t' := s1.toks) hk
    refine ⟨s1.heap.objs.size + 1, [s1.heap.objs.size + 1, s1.heap.objs.size], _, _, H1, rfl, I2, turn_enumB bb a (s1.heap.objs.size + 1) s1.heap.objs.size, ⟨⟨.none, he⟩, isIt_new hit, Nat.succ_ne_self _, Nat.ne_of_lt hal, Nat.ne_of_gt (Nat.lt_succ_of_lt hal)⟩, fun b hb => ?_, q⟩
    have e' : b = s1.heap.objs.size + 1 ∨ b = s1.heap.objs.size := by simpa using hb
    have hle : s1.heap.objs.size ≤ b := by
      rcases e' with z | z
      · rw [z]; exact Nat.le_add_right _ _
      · rw [z]; exact Nat.le_refl _
    exact I1.fpOk hle (I1.hok.fresh hle)

/-! ### zip -/
def ItzB (b1 b2 : Bool) (K : PySem.W.Frag) (a b : Addr) : L2.It :=
  ⟨fun i H => ∃ (xs ys : List V) (x y : V), SqB b1 K H a xs ∧ SqB b2 K H b ys ∧ xs[i]? = some x ∧ ys[i]? = some y,
    fun i H v H' => ∃ T o x y, v = .ref T ∧ H T = none ∧ o.dict = none ∧ H' = upd H T (.frz o (.tup [x, y])) ∧ (∀ xs, SqB b1 K H a xs → xs[i]? = some x) ∧ ∀ ys, SqB b2 K H b ys → ys[i]? = some y,
    fun i H => ∃ xs ys : List V, SqB b1 K H a xs ∧ SqB b2 K H b ys ∧ i = min xs.length ys.length⟩
theorem turn_zipB {P : Program} {w : World} {K : PySem.W.Frag} {elts : List Expr} {kk : Nat} {tpos : Pos} (b1 b2 : Bool) {a b z TI TO i1 i2 : Addr} (S : ZipSep2 z TI TO i1 i2 [i1, a] [i2, b]) (ha : a ≠ i1) (hb : b ≠ i2) :
    Turn P w K (.Tuple elts kk tpos) (ItzB b1 b2 K a b) [z, TI, TO, i1, i2] z (fun i h => IsZip h z TI TO .none ∧ IsPair h TI (.ref i1) (.ref i2) ∧ (∃ x y, IsPair h TO x y) ∧ IsItB b1 h i1 a i ∧ IsItB b2 h i2 b i) where
  mem := by simp
  obj := fun i h st c hc => by
    obtain ⟨hz, hTI, ⟨x, y, hTO⟩, h1, h2⟩ := st
    have e' : c = z ∨ c = TI ∨ c = TO ∨ c = i1 ∨ c = i2 := by simpa using hc
    rcases e' with q | q | q | q | q
    · rw [q]; exact ⟨_, hz, fun v q => nomatch q⟩
    · rw [q]; exact ⟨_, hTI, fun v q => nomatch q⟩
    · rw [q]; exact ⟨_, hTO, fun v q => nomatch q⟩
    · rw [q]; exact h1.obj
    · rw [q]; exact h2.obj
  keep := fun i h h' st k => by
    obtain ⟨hz, hTI, ⟨x, y, hTO⟩, h1, h2⟩ := st
    exact ⟨k z (by simp) _ hz, k TI (by simp) _ hTI, ⟨x, y, k TO (by simp) _ hTO⟩, h1.at fun o q => k i1 (by simp) o q, h2.at fun o q => k i2 (by simp) o q⟩
  item := by
    intro X hP hw hK hc i pins s σ H E I hf st hg
    subst hP hw hK
    obtain ⟨hz, hTI, ⟨x0, y0, hTO⟩, h1, h2⟩ := st
    obtain ⟨xs, ys, x, y, hqx, hqy, hx, hy⟩ := hg
    obtain ⟨its, St1, rv, D1, d11, d12⟩ := draws_of (I.ok.hd hc) I hqx ha
    obtain ⟨its2, St2, rv2, D2, d21, d22⟩ := draws_of (I.ok.hd hc) I hqy hb
    obtain ⟨u, hu, ru⟩ := rv.get hx
    obtain ⟨u2, hu2, ru2⟩ := rv2.get hy
    have hlt1 : i < its.length := (List.getElem?_eq_some_iff.mp hu).1
    have hlt2 : i < its2.length := (List.getElem?_eq_some_iff.mp hu2).1
    have hzl : z < s.heap.objs.size := Heap.lt_size hz
    refine wpAny_pyNext_zipD2_item S D1 D2 hz hTI hTO (d11 i h1) (d21 i h2) hlt1 hlt2 fun u' u2' h' tk p1 p2 z' TO' h1' h2' hT hsz hk => ?_
    rw [hu] at p1
    rw [hu2] at p2
    cases p1
    cases p2
    refine ⟨_, rfl, wpAny_letOwnedTupleGo_zip (s := { s with heap := h', toks := tk }) z' fun h'' z'' sb => ?_⟩
    have hT2 : h''.get? s.heap.objs.size = some { cls := .type "tuple", data := .seq #[u, u2] } := (sb.2 _ (Nat.ne_of_gt hzl)).trans hT
    have new : ObjOk X.prog X.w (upd H s.heap.objs.size (.frz { cls := .type "tuple", data := .seq #[u, u2] } (.tup [x, y]))) h'' s.heap.objs.size (.frz { cls := .type "tuple", data := .seq #[u, u2] } (.tup [x, y])) :=
      ⟨hT2, by show 2 ≤ sizeLine; decide, [u, u2], .cons ru (.cons ru2 .nil), ⟨_, hT2, rfl, _, rfl⟩⟩
    have I1 : Inv X pins σ (upd H s.heap.objs.size (.frz { cls := .type "tuple", data := .seq #[u, u2] } (.tup [x, y]))) { s with heap := h'', toks := tk } :=
      I.turnedNew (t' := tk) (ch := [z, TI, TO, i1, i2]) (fun c o hb q => (sb.2 c (fun q' => hb (by simp [q']))).trans (hk c o (fun q' => hb (by simp [q'])) (fun q' => hb (by simp [q'])) (fun q' => hb (by simp [q'])) (fun q' => hb (by simp [q'])) q)) hf (Nat.le_refl _) new
    refine ⟨.ref s.heap.objs.size, _, I1, rfl, ⟨_, _, x, y, rfl, I.hok.fresh (Nat.le_refl _), rfl, rfl, fun l hl => by rw [hl.inj I hqx]; exact hx, fun l hl => by rw [hl.inj I hqy]; exact hy⟩, ⟨z'', ?_, ⟨u, u2, ?_⟩, ?_, ?_⟩, fun c hcm => ?_⟩
    · exact (sb.2 _ S.TIz).trans (hk _ _ S.TIz S.TITO S.TIi1 S.TIi2 hTI)
    · exact (sb.2 _ S.TOz).trans TO'
    · exact (d12 _ _ h1').at fun o q => (sb.2 _ S.zi1.symm).trans q
    · exact (d22 _ _ h2').at fun o q => (sb.2 _ S.zi2.symm).trans q
    · have hlt : c < s.heap.objs.size := by
        have e' : c = z ∨ c = TI ∨ c = TO ∨ c = i1 ∨ c = i2 := by simpa using hcm
        rcases e' with q | q | q | q | q
        · rw [q]; exact hzl
        · rw [q]; exact Heap.lt_size hTI
        · rw [q]; exact Heap.lt_size hTO
        · rw [q]; obtain ⟨_, e1, _⟩ := h1.obj; exact Heap.lt_size e1
        · rw [q]; obtain ⟨_, e2, _⟩ := h2.obj; exact Heap.lt_size e2
      rw [upd_ne (Nat.ne_of_lt hlt)]
      exact (hf c hcm).1
  done := by
    intro X hP hw hK hc i pins s σ H E I hf st hg
    subst hP hw hK
    obtain ⟨hz, hTI, ⟨x0, y0, hTO⟩, h1, h2⟩ := st
    obtain ⟨xs, ys, hqx, hqy, hend⟩ := hg
    obtain ⟨its, St1, rv, D1, d11, d12⟩ := draws_of (I.ok.hd hc) I hqx ha
    obtain ⟨its2, St2, rv2, D2, d21, d22⟩ := draws_of (I.ok.hd hc) I hqy hb
    have l1 := rv.length
    have l2 := rv2.length
    refine wpAny_pyNext_zipD2_end S D1 D2 hz hTI hTO (d11 i h1) (d21 i h2) (by omega) (by omega) (by omega) fun h' tk hk => ⟨rfl, I.turnedL (t' := tk) (ch := [z, TI, TO, i1, i2]) (fun c o hb q =>
      hk c o (fun q' => hb (by simp [q'])) (fun q' => hb (by simp [q'])) (fun q' => hb (by simp [q'])) (fun q' => hb (by simp [q'])) q) hf⟩
  self := fun A i s Q E st h => wpAny_pyIter_zip st.1 h
def iZipB (K : PySem.W.Frag) (ta : TA) : TI := fun σ H R => ta σ H fun vs H1 => ∃ b1 b2 a b xs ys, vs = [.ref a, .ref b] ∧ SqB b1 K H1 a xs ∧ SqB b2 K H1 b ys ∧ R (ItzB b1 b2 K a b) H1
theorem pi_zipB {X : Cx} {e e2 : Expr} {ta : TA} {p pos tpos : Pos} {elts : List Expr} {kk : Nat} (hg : Gl X "zip") (hm : X.mg "zip" = none) (ha : PA X [e, e2] ta)
    (hs : starEach [e, e2] X.env = (false, eval e X.env) :: starEach [e2] X.env := by rfl) (hpl : (backTo pos (starEach [e2] X.env)).any (·.1) = false := by rfl) :
    PI X (.Tuple elts kk tpos) (.Call (.Name "zip" p) [e, e2] [] pos) (iZipB X.K ta) := by
  refine ⟨fun pins s σ H R I h => ?_⟩
  refine Call_ (ld_blt I hg hm PyProof.Rows.boot_zip (PyProof.Rows.callWith_type1 (thn (ha.run pos pins s σ H _ I h) fun us s1 ⟨vs, H1, I1, r1, q1⟩ => ?_) hs hpl))
  obtain ⟨b1, b2, a, b, xs, ys, ex, hqx, hqy, q⟩ := q1
  subst ex
  cases r1 with
  | cons r rr =>
    cases rr with
    | cons r' rr =>
      cases rr
      cases r
      cases r'
      obtain ⟨Hb, B, hB, la⟩ := begins_of I1 hqx
      obtain ⟨Hb2, B2, hB2, lb⟩ := begins_of I1 hqy
      refine zip_begins2 B B2 hB hB2 fun h' hz hTI hTO h1 h2 hsz hk => wpAny_pyIter_zip hz ?_
      have I2 : Inv X pins σ H1 { s1 with heap := h' } := I1.kept (t' := s1.toks) hk
      refine ⟨s1.heap.objs.size + 4, [s1.heap.objs.size + 4, s1.heap.objs.size + 2, s1.heap.objs.size + 3, s1.heap.objs.size, s1.heap.objs.size + 1], _, _, H1, rfl, I2,
        turn_zipB b1 b2 (zip_sep2 (fp1 := [a]) (fp2 := [b]) (by simpa using la) (by simpa using lb)) (Nat.ne_of_lt la) (Nat.ne_of_lt (Nat.lt_succ_of_lt lb)), ⟨hz, hTI, ⟨_, _, hTO⟩, isIt_new h1, isIt_new h2⟩, fun c hcm => ?_, q⟩
      have e' : c = s1.heap.objs.size + 4 ∨ c = s1.heap.objs.size + 2 ∨ c = s1.heap.objs.size + 3 ∨ c = s1.heap.objs.size ∨ c = s1.heap.objs.size + 1 := by simpa using hcm
      have hle : s1.heap.objs.size ≤ c := by
        rcases e' with z | z | z | z | z
        · rw [z]; exact Nat.le_add_right _ _
        · rw [z]; exact Nat.le_add_right _ _
        · rw [z]; exact Nat.le_add_right _ _
        · rw [z]; exact Nat.le_refl _
        · rw [z]; exact Nat.le_add_right _ _
      exact I1.fpOk hle (I1.hok.fresh hle)
end Tr
set_option Elab.async false
set_option linter.all false
set_option maxRecDepth 100000
set_option maxHeartbeats 2000000
/-! The tree layer, part 11: targets; what is walked. -/
namespace Tr
open PySem PySem.Spec PyProof.Rows L2
section
variable {K : PySem.W.Frag} {F G G' H H' : Hp} {σ : L2.St} {ρ : Env'} {L M : List Addr}
theorem SR.noneAny : ∀ {ρ : Env'} {σ : L2.St} {L : List Addr} {i : Nat} (o : Option V), SR K G H ρ σ L → ρ[i]? = some none → SR K G H ρ (σ.set i o) L
  | _, _, _, _, _, .nil, e => by simp at e
  | _, _, _, 0, _, .no t, _ => .no t
  | _, _, _, 0, _, .yes h t, e => by simp at e
  | _, _, _, i + 1, o, .no t, e => .no (SR.noneAny (i := i) o t (by simpa using e))
  | _, _, _, i + 1, o, .yes h t, e => .yes h (SR.noneAny (i := i) o t (by simpa using e))
theorem set_out {α : Type} {l : List α} {i : Nat} (h : ¬ i < l.length) (x : α) : l.set i x = l := List.set_eq_of_length_le (by omega)
/-- a place forgotten -/
theorem Sta.drop (s : Sta K F G H ρ σ L) (i : Nat) (o : Option V) : ∃ L', Sta K F G H (ρ.set i none) (σ.set i o) L' ∧ ∀ a ∈ L', a ∈ L := by
  by_cases h : i < ρ.length
  · obtain ⟨P, M, S, e, _, k⟩ := s.sr.fill h
    have nd := s.nd
    rw [e] at nd
    have sub : ∀ a ∈ P ++ S, a ∈ L := fun a ha => by rw [e]; rcases List.mem_append.mp ha with h | h <;> simp [h]
    exact ⟨P ++ S, ⟨k o, nd.sublist (by simp), fun a ha => s.fr a (sub a ha), s.fh, s.gh⟩, sub⟩
  · have h2 : ¬ i < σ.length := by rw [← s.sr.length]; exact h
    rw [set_out h, set_out h2]
    exact ⟨L, s, fun _ h => h⟩
/-- data put in a place -/
theorem Sta.putD (s : Sta K F G H ρ σ L) {i : Nat} {d : PyData} {v : V} (h : i < ρ.length) (dq : Dq G v d) : ∃ L', Sta K F G H (ρ.set i (some (.d d))) (σ.set i (some v)) L' ∧ ∀ a ∈ L', a ∈ L := by
  obtain ⟨P, M, S, e, k, _⟩ := s.sr.fill h
  have nd := s.nd
  rw [e] at nd
  have sub : ∀ a ∈ P ++ [] ++ S, a ∈ L := fun a ha => by
    rw [List.append_nil] at ha
    rw [e]
    rcases List.mem_append.mp ha with h | h <;> simp [h]
  exact ⟨P ++ [] ++ S, ⟨k (.d dq), nd.sublist (by simp), fun a ha => s.fr a (sub a ha), s.fh, s.gh⟩, sub⟩
/-- what is held besides, put in a place -/
theorem Sta.put (s : Sta K F G H ρ σ L) {i : Nat} {x : Tv} {v : V} (h : i < ρ.length) (q : Val K F G H L x v M) : ∃ L', Sta K F G H (ρ.set i (some x)) (σ.set i (some v)) L' ∧ ∀ a ∈ L', a ∈ L ∨ a ∈ M := by
  obtain ⟨P, M0, S, e, k, _⟩ := s.sr.fill h
  have nd := s.nd
  rw [e] at nd
  have sub : ∀ a ∈ P ++ S, a ∈ L := fun a ha => by rw [e]; rcases List.mem_append.mp ha with h | h <;> simp [h]
  have sub2 : ∀ a ∈ P ++ M ++ S, a ∈ L ∨ a ∈ M := fun a ha => by
    rcases List.mem_append.mp ha with h | h
    · rcases List.mem_append.mp h with h | h
      · exact .inl (sub a (by simp [h]))
      · exact .inr h
    · exact .inl (sub a (by simp [h]))
  refine ⟨P ++ M ++ S, ⟨k q.r, ?_, fun a ha => ?_, s.fh, s.gh⟩, sub2⟩
  · have n0 : (P ++ S).Nodup := nd.sublist (by simp)
    rw [List.nodup_append] at n0
    rw [List.nodup_append]
    refine ⟨?_, n0.2.1, fun a ha b hb e => ?_⟩
    · rw [List.nodup_append]
      exact ⟨n0.1, q.nd, fun a ha b hb e => q.ap b hb (by rw [← e]; exact sub a (by simp [ha]))⟩
    · rcases List.mem_append.mp ha with h | h
      · exact n0.2.2 a h b hb e
      · exact q.ap a h (by rw [e]; exact sub b (by simp [hb]))
  · rcases sub2 a ha with h | h
    · exact s.fr a h
    · exact q.fr a h
theorem wipeR_length (ρ : Env') : ∀ vs : List Nat, (wipeR ρ vs).length = ρ.length
  | [] => rfl
  | v :: vs => by unfold wipeR; rw [List.length_set, wipeR_length ρ vs]
theorem Sta.wipe (s : Sta K F G H ρ σ L) : ∀ vs : List Nat, ∃ L', Sta K F G H (wipeR ρ vs) (L2.wipe σ vs) L' ∧ ∀ a ∈ L', a ∈ L
  | [] => ⟨L, s, fun _ h => h⟩
  | v :: vs => by
    obtain ⟨L1, s1, h1⟩ := Sta.wipe s vs
    obtain ⟨L2', s2, h2⟩ := s1.drop v none
    exact ⟨L2', s2, fun a ha => h1 a (h2 a ha)⟩
def back (σ τ : L2.St) : List Nat → L2.St
  | [] => τ
  | v :: vs => (back σ τ vs).set v (σ[v]?).join
theorem back_length (σ τ : L2.St) : ∀ vs : List Nat, (back σ τ vs).length = τ.length
  | [] => rfl
  | v :: vs => by unfold back; rw [List.length_set, back_length σ τ vs]
theorem back_at {σ τ : L2.St} (hl : τ.length = σ.length) (i : Nat) : ∀ vs : List Nat, (back σ τ vs)[i]? = if i ∈ vs then σ[i]? else τ[i]?
  | [] => by simp [back]
  | v :: vs => by
    unfold back
    by_cases h : v = i
    · subst h
      simp only [List.mem_cons, true_or, if_true]
      by_cases hv : v < σ.length
      · rw [List.getElem?_set_self (by rw [back_length, hl]; exact hv)]
        simp [hv]
      · rw [List.getElem?_eq_none (by rw [List.length_set, back_length, hl]; omega), List.getElem?_eq_none (by omega)]
    · rw [List.getElem?_set_ne h, back_at hl i vs]
      have : (i ∈ v :: vs) ↔ i ∈ vs := by simp [show ¬ i = v from fun e => h e.symm]
      simp only [this]
theorem back_wipe (σ : L2.St) (vs : List Nat) : back σ (L2.wipe σ vs) vs = σ := by
  apply List.ext_getElem?
  intro i
  rw [back_at (L2.wipe_length σ vs)]
  split
  · rfl
  · rename_i h
    exact L2.wipe_out h
/-- after a block: the data that stood in its names' places is back -/
theorem Sta.back {G1 H1 : Hp} {ρ1 : Env'} {L1 : List Addr} (s1 : Sta K F G1 H1 ρ1 σ L1) (g : Same G1 G) {τ : L2.St} (s : Sta K F G H ρ τ L) (hl : ρ.length = ρ1.length) :
    ∀ vs : List Nat, ∃ L', Sta K F G H (restR ρ1 ρ vs) (Tr.back σ τ vs) L' ∧ ∀ a ∈ L', a ∈ L
  | [] => ⟨L, s, fun _ h => h⟩
  | v :: vs => by
    obtain ⟨L', s', h'⟩ := Sta.back s1 g s hl vs
    show ∃ L', Sta K F G H ((restR ρ1 ρ vs).set v (keepD (ρ1[v]?).join)) ((Tr.back σ τ vs).set v (σ[v]?).join) L' ∧ _
    have fin : (∃ L'', Sta K F G H ((restR ρ1 ρ vs).set v none) ((Tr.back σ τ vs).set v (σ[v]?).join) L'' ∧ ∀ a ∈ L'', a ∈ L) := by
      obtain ⟨L'', s'', h''⟩ := s'.drop v (σ[v]?).join
      exact ⟨L'', s'', fun a ha => h' a (h'' a ha)⟩
    cases e : (ρ1[v]?).join with
    | none => exact fin
    | some x =>
      have e := join_some e
      have hv : v < (restR ρ1 ρ vs).length := by
        have h1 : (restR ρ1 ρ vs).length = (Tr.back σ τ vs).length := s'.sr.length
        have h2 : ρ.length = τ.length := s.sr.length
        rw [h1, back_length, ← h2, hl]
        exact (List.getElem?_eq_some_iff.mp e).1
      obtain ⟨w, P, M, S, e1, e2, r, _⟩ := s1.sr.at e
      have e3 : (σ[v]?).join = some w := by rw [e2]; rfl
      cases x with
      | d x =>
        rw [e3]
        obtain ⟨L'', s'', h''⟩ := s'.putD hv (r.dq.1.grow g)
        exact ⟨L'', s'', fun a ha => h' a (h'' a ha)⟩
      | scr ns =>
        rw [e3]
        cases r with
        | scr r =>
          obtain ⟨L'', s'', h''⟩ := s'.put (x := .scr ns) (M := []) hv ⟨.scr (g.seq r), List.nodup_nil, fun _ z => absurd z (by simp), fun _ z => absurd z (by simp)⟩
          exact ⟨L'', s'', fun a ha => h' a ((h'' a ha).elim id fun z => absurd z (by simp))⟩
      | own xs => exact fin
end

/-! ### targets -/
def locB (sc : Scope) (x : Str) : Bool := match sc.names.lookup x with | some .local => true | some .cell => true | _ => false
structure GdT (T : Str → Bool) (X : Cx) : Prop where
  loc : ∀ x, T x = true → Loc X.env.scope x
  fn : ∀ x, T x = true → X.fn x = true ∨ X.env.scope.names.lookup x = some .local
mutual
def okTg (N : List Str) (T : Str → Bool) : Tg → Expr → Bool
  | .name i, e => (match e with | .Name x _ => decide (N[i]? = some x) && T x | _ => false)
  | .tup ts, e => (match e with | .Tuple es _ _ => okTgs N T ts es | _ => false)
def okTgs (N : List Str) (T : Str → Bool) : TgL → List Expr → Bool
  | .nil, es => es.isEmpty
  | .cons t ts, es => (match es with | e :: es => okTg N T t e && okTgs N T ts es | [] => false)
end
def Agr (vs : List Nat) (σ σ' : L2.St) : Prop := σ'.length = σ.length ∧ ∀ i, i ∉ vs → σ'[i]? = σ[i]?
theorem Agr.trans {vs us : List Nat} {σ σ' σ'' : L2.St} (h : Agr vs σ σ') (h' : Agr us σ' σ'') : Agr (vs ++ us) σ σ'' :=
  ⟨h'.1.trans h.1, fun i hi => (h'.2 i fun z => hi (by simp [z])).trans (h.2 i fun z => hi (by simp [z]))⟩
theorem Agr.wipe {vs us : List Nat} {σ σ' : L2.St} (h : Agr vs σ σ') (s : ∀ i ∈ vs, i ∈ us) : L2.wipe σ' us = L2.wipe σ us := by
  have at' : ∀ (τ : L2.St) (i : Nat) (us : List Nat), (L2.wipe τ us)[i]? = if i ∈ us then (τ[i]?).map fun _ => none else τ[i]? := by
    intro τ i us
    induction us with
    | nil => simp [L2.wipe]
    | cons v us ih =>
      unfold L2.wipe
      by_cases hv : v = i
      · subst hv
        by_cases hl : v < τ.length
        · rw [List.getElem?_set_self (by rw [L2.wipe_length]; exact hl)]
          simp [hl]
        · rw [List.getElem?_eq_none (by rw [List.length_set, L2.wipe_length]; omega)]
          simp [List.getElem?_eq_none (show τ.length ≤ v by omega)]
      · rw [List.getElem?_set_ne hv, ih]
        have : (i ∈ v :: us) ↔ i ∈ us := by simp [show ¬ i = v from fun e => hv e.symm]
        simp only [this]
  apply List.ext_getElem?
  intro i
  rw [at', at']
  by_cases hi : i ∈ us
  · simp only [hi, if_true]
    by_cases hl : i < σ.length
    · rw [List.getElem?_eq_getElem hl, List.getElem?_eq_getElem (by rw [h.1]; exact hl)]
      rfl
    · rw [List.getElem?_eq_none (show σ'.length ≤ i by rw [h.1]; omega), List.getElem?_eq_none (show σ.length ≤ i by omega)]
  · simp only [hi, if_false]
    exact h.2 i fun z => hi (s i z)
def liftG (K : PySem.W.Frag) (vs : List Nat) (w : PyData → Env' → (Env' → Prop) → Prop) : TG := fun v σ H R => ∃ F G ρ L d Q, Sta K F G H ρ σ L ∧ Dq G v d ∧ w d ρ Q ∧ ∀ ρ' σ' L', Sta K F G H ρ' σ' L' → (∀ a ∈ L', a ∈ L) → Agr vs σ σ' → Q ρ' → R σ' H
def liftGs (K : PySem.W.Frag) (us : List Nat) (n : Nat) (w : List PyData → Env' → (Env' → Prop) → Prop) : TGs := fun vs σ H R => ∃ F G ρ L ds Q, Sta K F G H ρ σ L ∧ DqAll G vs ds ∧ w ds ρ Q ∧ ∀ ρ' σ' L', Sta K F G H ρ' σ' L' → (∀ a ∈ L', a ∈ L) → Agr us σ σ' → Q ρ' → R σ' H
theorem tgs_len : ∀ (ts : TgL) {xs : List PyData} {ρ : Env'} {Q : Env' → Prop} {N : List Str} {T : Str → Bool} {es : List Expr}, okTgs N T ts es = true → wTgs ts xs ρ Q → xs.length = es.length
  | .nil, xs, _, _, _, _, es, h, w => by
    have h : es.isEmpty = true := h
    rw [List.isEmpty_iff] at h
    rw [w.1, h]
    rfl
  | .cons t ts, xs, _, _, _, _, [], h, w => nomatch (show false = true from h)
  | .cons t ts, xs, ρ, Q, N, T, e :: es, h, w => by
    have h : (okTg N T t e && okTgs N T ts es) = true := h
    rw [Bool.and_eq_true] at h
    obtain ⟨y, ys, rfl, w⟩ := w
    have : ∀ (t : Tg) {y : PyData} {ρ : Env'} {Q : Env' → Prop}, wTg t y ρ Q → ∃ ρ', Q ρ' := fun t => wTg_ex t
    obtain ⟨ρ', w'⟩ := this t w
    simp [tgs_len ts h.2 w']
where
  wTg_ex : ∀ (t : Tg) {y : PyData} {ρ : Env'} {Q : Env' → Prop}, wTg t y ρ Q → ∃ ρ', Q ρ'
    | .name i, _, _, _, w => ⟨_, w.2⟩
    | .tup ts, _, _, _, w => by
      obtain ⟨xs, _, w⟩ := w
      exact wTgs_ex ts w
  wTgs_ex : ∀ (ts : TgL) {y : List PyData} {ρ : Env'} {Q : Env' → Prop}, wTgs ts y ρ Q → ∃ ρ', Q ρ'
    | .nil, _, _, _, w => ⟨_, w.2⟩
    | .cons t ts, _, _, _, w => by
      obtain ⟨y, ys, _, w⟩ := w
      obtain ⟨ρ', w'⟩ := wTg_ex t w
      exact wTgs_ex ts w'
section
variable {X : Cx} {T : Str → Bool} {N : List Str}
theorem assignEach_tg : ∀ (t : Tg) {e : Expr} {es : List Expr} {env : Env}, okTg N T t e = true → assignEach (e :: es) env = (false, assign e env) :: assignEach es env
  | .name i, e, es, env, h => by cases e <;> first | rfl | exact nomatch (show false = true from h)
  | .tup ts, e, es, env, h => by cases e <;> first | rfl | exact nomatch (show false = true from h)
theorem assignEach_tgs : ∀ (ts : TgL) {es : List Expr} {env : Env}, okTgs N T ts es = true → (assignEach es env).length = es.length ∧ (assignEach es env).findIdx? (·.1) = none
  | .nil, es, env, h => by
    have h : es.isEmpty = true := h
    rw [List.isEmpty_iff] at h
    subst h
    exact ⟨rfl, rfl⟩
  | .cons t ts, [], _, h => nomatch (show false = true from h)
  | .cons t ts, e :: es, env, h => by
    have h : (okTg N T t e && okTgs N T ts es) = true := h
    rw [Bool.and_eq_true] at h
    obtain ⟨h1, h2⟩ := assignEach_tgs ts (env := env) h.2
    rw [assignEach_tg t h.1]
    refine ⟨by simp [h1], ?_⟩
    rw [List.findIdx?_cons]
    simp [h2]
mutual
theorem g_tg (hc : X.calm = true) (hN : X.N = N) (nd : N.Nodup) (g : GdT T X) : ∀ (t : Tg) (e : Expr), okTg N T t e = true → PG X e (liftG X.K (tgVs t) (wTg t))
  | .name i, e, h => by
    cases e with
    | Name x pos =>
      have h : (decide (N[i]? = some x) && T x) = true := h
      simp only [Bool.and_eq_true, decide_eq_true_eq] at h
      have p : PG X (.Name x pos) (gName i) := pg_name (by rw [hN]; exact nd) (by rw [hN]; exact h.1) (g.loc x h.2) (g.fn x h.2)
      refine ⟨fun pins s σ H v u Q I r ⟨F, G, ρ, L, d, Q', st, dq, ⟨hi, hq⟩, k⟩ => p.run pins s σ H v u Q I r ?_⟩
      obtain ⟨L', s', h'⟩ := st.putD hi dq
      exact k _ _ L' s' h' ⟨by simp, fun j hj => List.getElem?_set_ne (fun z => hj (by simp [tgVs, z]))⟩ hq
    | _ => exact nomatch (show false = true from h)
  | .tup ts, e, h => by
    cases e with
    | Tuple es kk pos =>
      have h : okTgs N T ts es = true := h
      obtain ⟨a1, a2⟩ := assignEach_tgs ts (env := X.env) h
      have p : PG X (.Tuple es kk pos) (gTup X.K es.length (liftGs X.K (tgVss ts) es.length (wTgs ts))) := pg_tup hc (g_tgs hc hN nd g ts es h) a1 a2
      have pl : PG X (.Tuple es kk pos) (gUnl X.K es.length (liftGs X.K (tgVss ts) es.length (wTgs ts))) := pg_unl hc (g_tgs hc hN nd g ts es h) a1 a2
      refine ⟨fun pins s σ H v u Q I r ⟨F, G, ρ, L, d, Q', st, dq, ⟨xs, e, hw⟩, k⟩ => ?_⟩
      cases d with
      | tuple ys =>
        cases e
        refine p.run pins s σ H v u Q I r ?_
        obtain ⟨a, vs, rfl, hg, ha⟩ := dq.tup_of
        exact ⟨a, vs, rfl, (TupG.grow hg st.gh).sq, by rw [ha.length]; exact tgs_len ts h hw, F, G, ρ, L, xs, Q', st, ha, hw, k⟩
      | list ys =>
        cases e
        refine pl.run pins s σ H v u Q I r ?_
        obtain ⟨a, vs, rfl, hg, ha⟩ := dq.lst_of
        exact ⟨a, vs, rfl, SqL.of (st.gh _ _ hg), by rw [ha.length]; exact tgs_len ts h hw, F, G, ρ, L, xs, Q', st, ha, hw, k⟩
      | _ => cases e
    | _ => exact nomatch (show false = true from h)
theorem g_tgs (hc : X.calm = true) (hN : X.N = N) (nd : N.Nodup) (g : GdT T X) : ∀ (ts : TgL) (es : List Expr), okTgs N T ts es = true → PGs X es (liftGs X.K (tgVss ts) es.length (wTgs ts))
  | .nil, es, h => by
    have h : es.isEmpty = true := h
    rw [List.isEmpty_iff] at h
    subst h
    refine ⟨fun pins s σ H vs us Q I r ⟨F, G, ρ, L, ds, Q', st, dq, ⟨e, hq⟩, k⟩ => pgs_nil.run pins s σ H vs us Q I r ?_⟩
    subst e
    cases dq
    exact ⟨rfl, k ρ σ L st (fun _ h => h) ⟨rfl, fun _ _ => rfl⟩ hq⟩
  | .cons t ts, [], h => nomatch (show false = true from h)
  | .cons t ts, e :: es, h => by
    have h : (okTg N T t e && okTgs N T ts es) = true := h
    rw [Bool.and_eq_true] at h
    have p := pgs_cons (g_tg hc hN nd g t e h.1) (g_tgs hc hN nd g ts es h.2) (by rw [assignEach_tg t h.1]; rfl)
    refine ⟨fun pins s σ H vs us Q I r ⟨F, G, ρ, L, ds, Q', st, dq, ⟨y, ys, e, hw⟩, k⟩ => p.run pins s σ H vs us Q I r ?_⟩
    subst e
    cases dq with
    | cons d1 d2 =>
      exact ⟨_, _, rfl, F, G, ρ, L, y, _, st, d1, hw, fun ρ1 σ1 L1 s1 h1 g1 w1 => ⟨F, G, ρ1, L1, ys, Q', s1, d2, w1, fun ρ2 σ2 L2 s2 h2 g2 q2 => k ρ2 σ2 L2 s2 (fun a ha => h1 a (h2 a ha)) (g1.trans g2) q2⟩⟩
end
end

/-! ### what is walked -/
structure Wk (G : Hp) (J : L2.It) (items : List PyData) : Prop where
  goes : ∀ i H, i < items.length → Same G H → J.go i H
  stops : ∀ H, Same G H → J.stop items.length H
  yields : ∀ i H x H', i < items.length → Same G H → J.yld i H x H' → ∃ d, items[i]? = some d ∧ ((H' = H ∧ Dq G x d) ∨ ∃ T o vs ds, x = .ref T ∧ H T = none ∧ o.dict = none ∧ H' = upd H T (.frz o (.tup vs)) ∧ DqAll G vs ds ∧ d = .tuple ds)
theorem Wk.grow {G G' : Hp} {J : L2.It} {items : List PyData} (w : Wk G J items) (g : Same G G') : Wk G' J items :=
  ⟨fun i H hi s => w.goes i H hi (g.trans s), fun H s => w.stops H (g.trans s), fun i H x H' hi s y => by
    obtain ⟨d, e, h⟩ := w.yields i H x H' hi (g.trans s) y
    refine ⟨d, e, ?_⟩
    rcases h with ⟨h1, h2⟩ | ⟨T, o, vs, ds, h1, h2, hn, h3, h4, h5⟩
    · exact .inl ⟨h1, h2.grow g⟩
    · exact .inr ⟨T, o, vs, ds, h1, h2, hn, h3, h4.grow g, h5⟩⟩
/-- a turn's value comes -/
theorem Wk.come {K : PySem.W.Frag} {F G H H' : Hp} {σ : L2.St} {ρ : Env'} {L : List Addr} {J : L2.It} {items : List PyData} {i : Nat} {x : V} (w : Wk G J items) (s : Sta K F G H ρ σ L) (hi : i < items.length) (y : J.yld i H x H') :
    ∃ d G', items[i]? = some d ∧ Aft K F G G' H' ρ σ L ∧ Dq G' x d := by
  obtain ⟨d, e, h⟩ := w.yields i H x H' hi s.gh y
  rcases h with ⟨rfl, h2⟩ | ⟨T, o, vs, ds, rfl, h2, hn, rfl, h4, rfl⟩
  · exact ⟨d, G, e, Aft.refl s, h2⟩
  · have a := s.laid (o := .frz o (.tup vs)) h2
    exact ⟨_, _, e, a, .tup ⟨o, upd_same, hn⟩ (h4.grow a.gg)⟩
def liftI (K : PySem.W.Frag) (w : WI) : TI := fun σ H R => ∃ F G ρ L Q, Sta K F G H ρ σ L ∧ w ρ Q ∧ ∀ items ρ' G' H' L' J, Aft K F G G' H' ρ' σ L' → Wk G' J items → Q items ρ' → R J H'
theorem wk_list {K : PySem.W.Frag} {G : Hp} {a : Addr} {vs : List V} {ds : List PyData} (h : G a = some (.lst vs)) (d : DqAll G vs ds) : Wk G (Itl K a) ds where
  goes := fun i H hi g => ⟨vs, vs[i]'(by rw [d.length]; exact hi), SqL.of (g _ _ h), by simp⟩
  stops := fun H g => ⟨vs, SqL.of (g _ _ h), Nat.le_of_eq d.length⟩
  yields := fun i H x H' hi g y => by
    obtain ⟨rfl, y⟩ := y
    obtain ⟨u, h1, h2⟩ := d.get (i := i) (x := ds[i]) (by simp [hi])
    have h3 := y vs (SqL.of (g _ _ h))
    rw [h1] at h3
    cases h3
    exact ⟨ds[i], by simp [hi], .inl ⟨rfl, h2⟩⟩
theorem wk_tup {K : PySem.W.Frag} {G : Hp} {a : Addr} {vs : List V} {ds : List PyData} (h : TupG G a vs) (d : DqAll G vs ds) : Wk G (Itt K a) ds where
  goes := fun i H hi g => ⟨vs, vs[i]'(by rw [d.length]; exact hi), (h.grow g).sq, by simp⟩
  stops := fun H g => ⟨vs, (h.grow g).sq, Nat.le_of_eq d.length⟩
  yields := fun i H x H' hi g y => by
    obtain ⟨rfl, y⟩ := y
    obtain ⟨u, h1, h2⟩ := d.get (i := i) (x := ds[i]) (by simp [hi])
    have h3 := y vs ((h.grow g).sq)
    rw [h1] at h3
    cases h3
    exact ⟨ds[i], by simp [hi], .inl ⟨rfl, h2⟩⟩
theorem wk_range {G : Hp} {lo : Int} {n : Nat} : Wk G (Itr lo n) ((List.range n).map fun (k : Nat) => .int (lo + k)) where
  goes := fun i H hi g => by show i < n; simpa using hi
  stops := fun H g => by simp [Itr]
  yields := fun i H x H' hi g y => by
    obtain ⟨rfl, rfl⟩ := y
    exact ⟨.int (lo + i), by simp at hi; simp [hi], .inl ⟨rfl, .int _⟩⟩
def GB (b : Bool) (G : Hp) (a : Addr) (vs : List V) : Prop := match b with
  | true => TupG G a vs
  | false => G a = some (.lst vs)
theorem GB.grow {b : Bool} {G G' : Hp} {a : Addr} {vs : List V} (h : GB b G a vs) (g : Same G G') : GB b G' a vs := by
  cases b with
  | true => exact TupG.grow h g
  | false => exact g _ _ h
theorem SqB.of {b : Bool} {K : PySem.W.Frag} {H : Hp} {a : Addr} {vs : List V} (h : GB b H a vs) : SqB b K H a vs := by
  cases b with
  | true => exact TupG.sq h
  | false => exact SqL.of h
theorem wk_enum {K : PySem.W.Frag} {G : Hp} {b : Bool} {a : Addr} {vs : List V} {ds : List PyData} (h : GB b G a vs) (d : DqAll G vs ds) : Wk G (IteB b K a) (ds.mapIdx fun k x => .tuple [.int k, x]) where
  goes := fun i H hi g => ⟨vs, vs[i]'(by rw [d.length]; simpa using hi), SqB.of (h.grow g), by simp⟩
  stops := fun H g => ⟨vs, SqB.of (h.grow g), by simp [d.length]⟩
  yields := fun i H x H' hi g y => by
    obtain ⟨T, o, v, rfl, h1, hn, h2, y⟩ := y
    have hi : i < ds.length := by simpa using hi
    obtain ⟨u, e1, e2⟩ := d.get (i := i) (x := ds[i]) (by simp [hi])
    have h3 := y vs (SqB.of (h.grow g))
    rw [e1] at h3
    cases h3
    exact ⟨.tuple [.int i, ds[i]], by simp [hi], .inr ⟨T, o, _, _, rfl, h1, hn, h2, .cons (.int _) (.cons e2 .nil), rfl⟩⟩
theorem wk_zip {K : PySem.W.Frag} {G : Hp} {b1 b2 : Bool} {a b : Addr} {vs us : List V} {ds es : List PyData} (h : GB b1 G a vs) (d : DqAll G vs ds) (h' : GB b2 G b us) (d' : DqAll G us es) :
    Wk G (ItzB b1 b2 K a b) (List.zipWith (fun p q => .tuple [p, q]) ds es) where
  goes := fun i H hi g => by
    have hi : i < ds.length ∧ i < es.length := by simp at hi; omega
    exact ⟨vs, us, vs[i]'(by rw [d.length]; exact hi.1), us[i]'(by rw [d'.length]; exact hi.2), SqB.of (h.grow g), SqB.of (h'.grow g), by simp, by simp⟩
  stops := fun H g => ⟨vs, us, SqB.of (h.grow g), SqB.of (h'.grow g), by simp [d.length, d'.length]⟩
  yields := fun i H x H' hi g y => by
    obtain ⟨T, o, v, w, rfl, h1, hn, h2, y, y'⟩ := y
    have hi : i < ds.length ∧ i < es.length := by simp at hi; omega
    obtain ⟨u, e1, e2⟩ := d.get (i := i) (x := ds[i]) (by simp [hi])
    obtain ⟨u', e1', e2'⟩ := d'.get (i := i) (x := es[i]) (by simp [hi])
    have h3 := y vs (SqB.of (h.grow g))
    have h3' := y' us (SqB.of (h'.grow g))
    rw [e1] at h3
    rw [e1'] at h3'
    cases h3
    cases h3'
    refine ⟨.tuple [ds[i], es[i]], ?_, .inr ⟨T, o, _, _, rfl, h1, hn, h2, .cons e2 (.cons e2' .nil), rfl⟩⟩
    rw [List.getElem?_zipWith]
    simp [hi]
theorem items_gb {G : Hp} {v : V} {d : PyData} {xs : List PyData} (h : Dq G v d) (e : PyData.itemsOf d = some xs) : ∃ p vs b, v = .ref p ∧ GB b G p vs ∧ DqAll G vs xs := by
  cases h with
  | lst h1 h2 => cases e; exact ⟨_, _, false, rfl, h1, h2⟩
  | tup h1 h2 => cases e; exact ⟨_, _, true, rfl, h1, h2⟩
  | _ => cases e
theorem PI.imp {X : Cx} {tg e : Expr} {t t' : TI} (h : PI X tg e t) (k : ∀ σ H R, t' σ H R → t σ H R) : PI X tg e t' := ⟨fun pins s σ H R I q => h.run pins s σ H R I (k σ H R q)⟩
theorem PI.or {X : Cx} {tg e : Expr} {t t' : TI} (h : PI X tg e t) (h' : PI X tg e t') : PI X tg e (fun σ H R => t σ H R ∨ t' σ H R) := ⟨fun pins s σ H R I q => q.elim (h.run pins s σ H R I) (h'.run pins s σ H R I)⟩
section
variable {Γ : Gam} {N : List Str} {sc : Scope} {X : Cx} {l r tg : Expr} {pos px tpos : Pos} {w w1 w2 : WE}
/-- a list or a tuple, walked -/
def iSeq (K : PySem.W.Frag) (tl : TE) : TI := fun σ H R => tl σ H fun x H1 => ∃ a, x = .ref a ∧ (((∃ xs, SqL K H1 a xs) ∧ R (Itl K a) H1) ∨ ((∃ xs, SqT K H1 a xs) ∧ R (Itt K a) H1))
theorem pi_seq {tl : TE} (hl : PE X l tl) : PI X tg l (iSeq X.K tl) := by
  refine ⟨fun pins s σ H R I h => ?_⟩
  refine thn (hl.run pins s σ H _ I h) fun v s1 ⟨x, H1, I1, r1, q1⟩ => ?_
  obtain ⟨a, e, q1⟩ := q1
  subst e
  cases r1
  rcases q1 with ⟨⟨xs, hq⟩, q⟩ | ⟨⟨xs, hq⟩, q⟩
  · obtain ⟨its, rv, p, hz⟩ := I1.list hq
    refine wpAny_pyIter_list p.isList ?_
    refine ⟨s1.heap.objs.size, [s1.heap.objs.size], _, _, H1, rfl, I1.kept (t' := s1.toks) fun b o e => Heap.get?_push_of_some _ e, turn_list a _, ⟨_, Heap.get?_push_size _ rfl, rfl, rfl⟩, fun b hb => ?_, q⟩
    have e : b = s1.heap.objs.size := by simpa using hb
    subst e
    exact I1.fpOk (Nat.le_refl _) (I1.hok.fresh (Nat.le_refl _))
  · obtain ⟨its, rv, p, hz⟩ := I1.tuple hq
    refine wpAny_pyIter_tuple (show s1.heap.IsTuple a its.toArray from p) ?_
    refine ⟨s1.heap.objs.size, [s1.heap.objs.size], _, _, H1, rfl, I1.kept (t' := s1.toks) fun b o e => Heap.get?_push_of_some _ e, turn_tuple a _, ⟨_, Heap.get?_push_size _ rfl, rfl, rfl⟩, fun b hb => ?_, q⟩
    have e : b = s1.heap.objs.size := by simpa using hb
    subst e
    exact I1.fpOk (Nat.le_refl _) (I1.hok.fresh (Nat.le_refl _))
theorem i_seq (ha : PE X l (lift X.K w)) : PI X tg l (liftI X.K fun ρ Q => w ρ fun x ρ1 => ∃ d xs, x.frz = some d ∧ PyData.itemsOf d = some xs ∧ Q xs ρ1) := by
  refine PI.imp (pi_seq ha) fun σ H R ⟨F, G, ρ, L, Q, s, hw, k⟩ => ⟨F, G, ρ, L, _, s, hw, fun x v ρ1 G1 H1 L1 M a q ⟨d, xs, hd, hi, hq⟩ => ?_⟩
  obtain ⟨b, dq⟩ := a.st.frozen q hd
  obtain ⟨p, vs, bb, rfl, g1, d1⟩ := items_gb dq hi
  cases bb with
  | false => exact ⟨p, rfl, .inl ⟨⟨vs, SqL.of (b.st.gh _ _ g1)⟩, k xs _ _ _ _ _ (a.trans b) (wk_list g1 d1) hq⟩⟩
  | true => exact ⟨p, rfl, .inr ⟨⟨vs, (TupG.grow g1 b.st.gh).sq⟩, k xs _ _ _ _ _ (a.trans b) (wk_tup g1 d1) hq⟩⟩
theorem i_rng1 (g : Gd Γ N sc X) (hg : glB sc "range" = true) (ha : PE X l (lift X.K w)) (pl : plainE l = true) :
    PI X tg (.Call (.Name "range" px) [l] [] pos) (liftI X.K fun ρ Q => w ρ fun y ρ2 => ∃ j, y = .d (.int j) ∧ -(2 ^ 62) ≤ (0 : Int) ∧ (0 : Int) < 2 ^ 62 ∧ -(2 ^ 62) ≤ j ∧ j < 2 ^ 62 ∧ Q ((List.range (j - 0).toNat).map fun (k : Nat) => .int (0 + k)) ρ2) := by
  refine PI.imp (pi_range1 (g.glo hg) (g.bl _ (by decide)) (pa_cons ha pa_nil (starEach_plain pl)) (starEach_plain pl)) fun σ H R ⟨F, G, ρ, L, Q, s, hw, k⟩ => ⟨F, G, ρ, L, _, s, hw, fun x v ρ1 G1 H1 L1 M a q ⟨j, e, _, _, h1, h2, hq⟩ => ?_⟩
  subst e
  refine ⟨j, by rw [q.r.dq.1.int_of], h1, h2, ?_⟩
  rw [Int.sub_zero] at hq
  exact k _ _ _ _ _ _ a wk_range hq
theorem i_rng2 (g : Gd Γ N sc X) (hg : glB sc "range" = true) (ha : PE X l (lift X.K w1)) (hb : PE X r (lift X.K w2)) (pl : plainE l = true) (pr : plainE r = true) :
    PI X tg (.Call (.Name "range" px) [l, r] [] pos) (liftI X.K fun ρ Q => (w1 ρ fun x ρ1 => ∃ i, x = .d (.int i) ∧ w2 ρ1 fun y ρ2 => ∃ j, y = .d (.int j) ∧ -(2 ^ 62) ≤ i ∧ i < 2 ^ 62 ∧ -(2 ^ 62) ≤ j ∧ j < 2 ^ 62 ∧ Q ((List.range (j - i).toNat).map fun (k : Nat) => .int (i + k)) ρ2)) := by
  refine PI.imp (pi_range2 (g.glo hg) (g.bl _ (by decide)) (pa_cons ha (pa_cons hb pa_nil (starEach_plain pr)) (starEach_plain pl)) (by rw [starEach_plain pl, starEach_plain pr]; rfl) (by rw [starEach_plain pr]; rfl)) fun σ H R ⟨F, G, ρ, L, Q, s, hw, k⟩ =>
    ⟨F, G, ρ, L, _, s, hw, fun x v ρ1 G1 H1 L1 M a q ⟨i, e, hw2⟩ => ⟨F, G1, ρ1, L1, _, a.st, hw2, fun y u ρ2 G2 H2 L2 M2 b q2 ⟨j, e2, h0, h1, h2, h3, hq⟩ => ?_⟩⟩
  subst e
  subst e2
  exact ⟨i, j, by rw [q.r.dq.1.int_of, q2.r.dq.1.int_of], ⟨h0, h1, h2, h3⟩, k _ _ _ _ _ _ (a.trans b) wk_range hq⟩
theorem i_enum (g : Gd Γ N sc X) {elts : List Expr} {kk : Nat} (hg : glB sc "enumerate" = true) (ha : PE X l (lift X.K w)) (pl : plainE l = true) :
    PI X (.Tuple elts kk tpos) (.Call (.Name "enumerate" px) [l] [] pos) (liftI X.K fun ρ Q => w ρ fun x ρ1 => ∃ d xs, x.frz = some d ∧ PyData.itemsOf d = some xs ∧ Q (xs.mapIdx fun k x => .tuple [.int k, x]) ρ1) := by
  refine PI.imp (pi_enumB (g.glo hg) (g.bl _ (by decide)) (pa_cons ha pa_nil (starEach_plain pl)) (starEach_plain pl)) fun σ H R ⟨F, G, ρ, L, Q, s, hw, k⟩ => ⟨F, G, ρ, L, _, s, hw, fun x v ρ1 G1 H1 L1 M a q ⟨d, xs, hd, hi, hq⟩ => ?_⟩
  obtain ⟨b, dq⟩ := a.st.frozen q hd
  obtain ⟨p, vs, bb, rfl, g1, d1⟩ := items_gb dq hi
  exact ⟨bb, p, vs, rfl, SqB.of (g1.grow b.st.gh), k _ _ _ _ _ _ (a.trans b) (wk_enum g1 d1) hq⟩
theorem i_zip (g : Gd Γ N sc X) {elts : List Expr} {kk : Nat} (hg : glB sc "zip" = true) (ha : PE X l (lift X.K w1)) (hb : PE X r (lift X.K w2)) (pl : plainE l = true) (pr : plainE r = true) :
    PI X (.Tuple elts kk tpos) (.Call (.Name "zip" px) [l, r] [] pos) (liftI X.K fun ρ Q => w1 ρ fun x ρ1 => w2 ρ1 fun y ρ2 => ∃ d e xs ys, x.frz = some d ∧ y.frz = some e ∧ PyData.itemsOf d = some xs ∧ PyData.itemsOf e = some ys ∧
      Q (List.zipWith (fun p q => .tuple [p, q]) xs ys) ρ2) := by
  refine PI.imp (pi_zipB (g.glo hg) (g.bl _ (by decide)) (pa_cons ha (pa_cons hb pa_nil (starEach_plain pr)) (starEach_plain pl)) (starEach_plain pl) (by rw [starEach_plain pr]; rfl)) fun σ H R ⟨F, G, ρ, L, Q, s, hw, k⟩ =>
    ⟨F, G, ρ, L, _, s, hw, fun x v ρ1 G1 H1 L1 M a q hw2 => ⟨Tr.hold F H1 M, G1, ρ1, L1, _, a.st.hold q, hw2, fun y u ρ2 G2 H2 L2 M2 b q2 ⟨d, e, xs, ys, hd, he, hx, hy, hq⟩ => ?_⟩⟩
  obtain ⟨b1, q1⟩ := Aft.held q b
  obtain ⟨q2', ap⟩ := held_apart q q2
  obtain ⟨G3, c, dq, eq⟩ := Two.frz b1.st q1 q2' ap hd he
  obtain ⟨p, vs, bb, rfl, g1, d1⟩ := items_gb dq hx
  obtain ⟨p', vs', bb', rfl, g1', d1'⟩ := items_gb eq hy
  exact ⟨bb, bb', p, p', vs, vs', rfl, SqB.of (g1.grow c.st.gh), SqB.of (g1'.grow c.st.gh), k _ _ _ _ _ _ ((a.trans b1).trans c) (wk_zip g1 d1 g1' d1') hq⟩
end
end Tr
set_option Elab.async false
set_option linter.all false
set_option maxRecDepth 100000
set_option maxHeartbeats 2000000
/-! The tree layer, part 12: comprehensions. -/
namespace Tr
open PySem PySem.Spec PyProof.Rows L2
section
variable {Γ : Gam} {N : List Str} {sc : Scope} {X : Cx}
theorem Gd.blk (g : Gd Γ N sc X) (scope : Scope) (s : Shared) (H : Hp) (C : Addr) (cl : List (Str × Addr)) (fp : List Addr) : Gd Γ N (relS scope sc) (X.blk s H scope (compEnvC scope cl C X.env) fp) where
  calm := g.calm
  nm := g.nm
  nd := g.nd
  sc := by rw [← g.sc]; rfl
  gd := g.gd
  un := g.un
  bl := g.bl
  gl := g.gl
theorem GdT.blk (scope : Scope) (s : Shared) (H : Hp) (C : Addr) (cl : List (Str × Addr)) (fp : List Addr) : GdT (locB scope) (X.blk s H scope (compEnvC scope cl C X.env) fp) where
  loc := fun x h => by
    unfold locB at h
    split at h
    · rename_i e; exact .inl (lookup_relS_keep (sc := X.env.scope) (by decide) e)
    · rename_i e; exact .inr (lookup_relS_keep (sc := X.env.scope) (by decide) e)
    · cases h
  fn := fun x h => by
    unfold locB at h
    split at h
    · rename_i e; exact .inr (lookup_relS_keep (sc := X.env.scope) (by decide) e)
    · rename_i e; exact .inl (by show (scope.names.lookup x == some .cell) = true; rw [e]; rfl)
    · cases h
end
section
variable {K : PySem.W.Frag} {F G H : Hp} {σ : L2.St} {ρ : Env'} {L M M2 : List Addr}
/-- a write into a list that is held -/
theorem Sta.written (s : Sta K F G H ρ σ L) {a : Addr} {o o' : HO} (ha : H a = some o') (hG : G a = none) (hF : F a = none) (hL : a ∉ L) : Aft K F G G (upd H a o) ρ σ L := by
  refine ⟨⟨s.sr.step (Same.refl _) (fun b hb => upd_ne (fun z => hL (z ▸ hb))) fun b hb => (s.sr.there b hb).2, s.nd, s.fr, fun b x e => ?_, fun b x e => ?_⟩, Same.refl _, fun _ _ h => h⟩
  · rw [upd_ne (fun z => by rw [z, hF] at e; cases e)]; exact s.fh b x e
  · rw [upd_ne (fun z => by rw [z, hG] at e; cases e)]; exact s.gh b x e
theorem ORs.append : ∀ {xs : List Tv} {vs : List V} {L : List Addr} {y : Tv} {u : V} {M : List Addr}, ORs K G H xs vs L → OR K G H y u M → ORs K G H (xs ++ [y]) (vs ++ [u]) (L ++ M)
  | _, _, _, _, _, _, .nil, h => by simpa using ORs.cons h .nil
  | _, _, _, _, _, _, .cons h t, h' => by
    have := ORs.cons h (ORs.append t h')
    simpa [List.append_assoc] using this
theorem Val.own_inv {acc : List Tv} {v : V} (q : Val K F G H L (.own acc) v M) : ∃ D vs M', v = .ref D ∧ M = D :: M' ∧ H D = some (.lst vs) ∧ G D = none ∧ ORs K G H acc vs M' := by
  obtain ⟨r, nd, fr, ap⟩ := q
  cases r with
  | own h1 h2 h3 => exact ⟨_, _, _, rfl, rfl, h1, h2, h3⟩
/-- one more at the end of a list that is held -/
theorem Val.push {acc : List Tv} {D : Addr} {y : Tv} {u : V} (s : Sta K F G H ρ σ L) (q : Val K F G H L (.own acc) (.ref D) M) (q2 : Val K F G H L y u M2) (ap : ∀ a ∈ M2, a ∉ M) :
    ∃ vs, H D = some (.lst vs) ∧ vs.length = acc.length ∧ Aft K F G G (upd H D (.lst (vs ++ [u]))) ρ σ L ∧ Val K F G (upd H D (.lst (vs ++ [u]))) L (.own (acc ++ [y])) (.ref D) (M ++ M2) := by
  obtain ⟨D', vs, M', e, rfl, hD, hG, r⟩ := q.own_inv
  cases e
  have nd := List.nodup_cons.mp q.nd
  have hM' : ∀ a ∈ M', a ≠ D := fun a ha z => nd.1 (z ▸ ha)
  have hM2 : ∀ a ∈ M2, a ≠ D := fun a ha z => ap a ha (by rw [z]; exact List.mem_cons_self)
  refine ⟨vs, hD, r.length.symm, s.written hD hG (q.fr D List.mem_cons_self) (q.ap D List.mem_cons_self), ?_, ?_, fun a ha => ?_, fun a ha => ?_⟩
  · exact .own upd_same hG ((r.append q2.r).step (Same.refl _) (fun a ha => upd_ne (by rcases List.mem_append.mp ha with h | h; exact hM' a h; exact hM2 a h)) fun a ha => by
      rcases List.mem_append.mp ha with h | h
      · exact (r.there a h).2
      · exact (q2.r.there a h).2)
  · rw [List.nodup_append]
    exact ⟨q.nd, q2.nd, fun a ha b hb e => ap b hb (e ▸ ha)⟩
  · rcases List.mem_append.mp ha with h | h
    · exact q.fr a h
    · exact q2.fr a h
  · rcases List.mem_append.mp ha with h | h
    · exact q.ap a h
    · exact q2.ap a h
end
/-- a condition that may be absent -/
def liftC (K : PySem.W.Frag) (w : Env' → (Bool → Env' → Prop) → Prop) : TT := fun σ H R => ∃ F G ρ L Q, Sta K F G H ρ σ L ∧ w ρ Q ∧ ∀ b ρ' G' H' L', Aft K F G G' H' ρ' σ L' → Q b ρ' → R b H'
section
variable {Γ : Gam} {N : List Str} {sc : Scope} {X : Cx} {pos : Pos}
theorem PTs.imp {ifs : List Expr} {t t' : TT} (h : PTs X ifs t) (k : ∀ σ H Q, t' σ H Q → t σ H Q) : PTs X ifs t' := ⟨fun pins s σ H Q I q => h.run pins s σ H Q I (k σ H Q q)⟩
theorem c_none : PTs X [] (liftC X.K fun ρ Q => Q true ρ) := PTs.imp pts_nil fun σ H R ⟨F, G, ρ, L, Q, s, hw, k⟩ => k _ _ _ _ _ (Aft.refl s) hw
theorem liftT_C {w : WE} {σ : L2.St} {H : Hp} {R : Bool → Hp → Prop} (h : liftC X.K (fun ρ Q => w ρ fun x ρ1 => ∃ k, x = .d (.bool k) ∧ Q k ρ1) σ H R) : liftT X.K w σ H R := by
  obtain ⟨F, G, ρ, L, Q, s, hw, k⟩ := h
  refine ⟨F, G, ρ, L, _, s, hw, fun x v ρ' G' H' L' M a q ⟨b, e, hq⟩ => ?_⟩
  subst e
  exact ⟨b, q.r.dq.1.bl_of, k b _ _ _ _ a hq⟩
theorem c_some {c : Expr} {w : WE} (h : PT X c (liftT X.K w)) : PTs X [c] (liftC X.K fun ρ Q => w ρ fun x ρ1 => ∃ k, x = .d (.bool k) ∧ Q k ρ1) := PTs.imp (pts_one h) fun _ _ _ q => liftT_C q
theorem wipe_wipe (σ : L2.St) (vs : List Nat) : L2.wipe (L2.wipe σ vs) vs = L2.wipe σ vs := by
  have h : Agr vs σ (L2.wipe σ vs) := ⟨L2.wipe_length _ _, fun i hi => L2.wipe_out hi⟩
  exact h.wipe fun _ h => h
/-- what a comprehension's turns keep -/
def lcP (K : PySem.W.Frag) (F G1 : Hp) (τ : L2.St) (D : Addr) (I : Nat → List Tv → Env' → Prop) (n : Nat) (i : Nat) (H : Hp) : Prop :=
  ∃ ρ G L M acc, Aft K F G1 G H ρ τ L ∧ Val K F G H L (.own acc) (.ref D) M ∧ I i acc ρ ∧ ρ.length = n
/-- a comprehension over trees -/
def wLc (t : Tg) (wi : WI) (wc : Env' → (Bool → Env' → Prop) → Prop) (we : WE) (vs : List Nat) : WE := fun ρ Q => wi ρ fun items ρ1 => ∃ I : Nat → List Tv → Env' → Prop, I 0 [] (wipeR ρ1 vs) ∧
      (∀ k x acc ρ2, items[k]? = some x → I k acc ρ2 → wTg t x ρ2 fun ρ3 => wc ρ3 fun b ρ4 =>
        (b = true → we ρ4 fun y ρ5 => acc.length < sizeLine ∧ I (k + 1) (acc ++ [y]) (wipeR ρ5 vs)) ∧ (b = false → I (k + 1) acc (wipeR ρ4 vs))) ∧
      ∀ acc ρ2, I items.length acc ρ2 → Q (.own acc) (restR ρ1 ρ2 vs)
theorem lc_main {own : List (Str × Nat)} {t : Tg} {wi : WI} {wc : Env' → (Bool → Env' → Prop) → Prop} {we : WE} {K : PySem.W.Frag} (hv : ∀ i ∈ tgVs t, i ∈ own.map (·.2)) :
    ∀ σ H R, lift K (wLc t wi wc we (own.map (·.2))) σ H R → tLc (liftI K wi) (liftG K (tgVs t) (wTg t)) (liftC K wc) (lift K we) (own.map (·.2)) σ H R := by
  rintro σ H R ⟨F, G, ρ, L, Q, s, hw, kt⟩
  refine ⟨F, G, ρ, L, _, s, hw, fun items ρ1 G1 H1 L1 J a wk ⟨I, h0, hs, hd⟩ D hD => ?_⟩
  obtain ⟨L1', w1, sub1⟩ := a.st.wipe (own.map (·.2))
  have hl1 : ρ1.length = σ.length := a.st.sr.length
  -- the invariant by the turn
  refine ⟨fun i m H => m = items.length - i ∧ i ≤ items.length ∧ lcP K F G1 (L2.wipe σ (own.map (·.2))) D I ρ1.length i H, ⟨items.length, by simp, Nat.zero_le _, ?_⟩, ?_⟩
  · have a0 := w1.made (o := .lst []) hD
    refine ⟨_, G1, L1', [D], [], a0, ⟨.own upd_same (a.st.gh.free hD) .nil, by simp, fun b hb => ?_, fun b hb => ?_⟩, h0, wipeR_length _ _⟩
    · have e : b = D := by simpa using hb
      rw [e]
      exact a.st.fh.free hD
    · have e : b = D := by simpa using hb
      rw [e]
      intro hl
      obtain ⟨⟨x, hx⟩, _⟩ := w1.sr.there D hl
      rw [hD] at hx
      cases hx
  rintro i m H2 ⟨rfl, hi, ρ2, G2, Lb, M, acc, b, q, hI, hlen⟩
  by_cases hlt : i < items.length
  · refine .inr ⟨wk.goes i H2 hlt (b.gg.trans b.st.gh), fun H' => lcP K F G1 (L2.wipe σ (own.map (·.2))) D I ρ1.length (i + 1) H', fun H' p' => ⟨items.length - (i + 1), by omega, rfl, hlt, p'⟩, fun x H3 y => ?_⟩
    obtain ⟨d, G3, ed, c, dq⟩ := Wk.come (wk.grow b.gg) (b.st.hold q) hlt y
    have hw3 := hs i d acc ρ2 ed hI
    refine ⟨Tr.hold F H2 M, G3, ρ2, Lb, d, _, c.st, dq, hw3, fun ρ3 σ3 L3 s3 h3 ag hc3 => ⟨ag.wipe hv |>.trans (wipe_wipe _ _), Tr.hold F H2 M, G3, ρ3, L3, _, s3, hc3, fun bb ρ4 G4 H4 L4 e4 hq4 => ?_⟩⟩
    cases bb with
    | true =>
      have hq5 := hq4.1 rfl
      refine ⟨Tr.hold F H2 M, G4, ρ4, L4, _, e4.st, hq5, fun z u ρ5 G5 H5 L5 M5 e5 q5 ⟨hz, hI5⟩ => ?_⟩
      obtain ⟨c1, qc⟩ := Aft.held q (⟨e5.st, (c.gg.trans e4.gg).trans e5.gg, fun b' h1 h2 => e5.gf b' h1 (e4.gf b' h1 (c.gf b' h1 h2))⟩ : Aft K (Tr.hold F H2 M) G2 G5 H5 ρ5 σ3 L5)
      obtain ⟨q5', ap5⟩ := held_apart q q5
      obtain ⟨vs, hD5, hvl, c2, qn⟩ := Val.push c1.st qc q5' ap5
      refine ⟨vs, hD5, by rw [hvl]; exact hz, ?_⟩
      obtain ⟨L6, s6, sub6⟩ := c2.st.wipe (own.map (·.2))
      have ew : L2.wipe σ3 (own.map (·.2)) = L2.wipe σ (own.map (·.2)) := (ag.wipe hv).trans (wipe_wipe _ _)
      rw [ew] at s6
      refine ⟨_, G5, L6, M ++ M5, acc ++ [z], ⟨s6, b.gg.trans (c1.gg.trans c2.gg), fun b' h1 h2 => c2.gf b' h1 (c1.gf b' h1 (b.gf b' h1 h2))⟩, ⟨qn.r, qn.nd, qn.fr, fun a' ha' hl' => qn.ap a' ha' (sub6 a' hl')⟩, hI5, ?_⟩
      have h5 : ρ5.length = σ3.length := c2.st.sr.length
      rw [wipeR_length, h5, ag.1, L2.wipe_length, hl1]
    | false =>
      have hI4 := hq4.2 rfl
      obtain ⟨c1, qc⟩ := Aft.held q (⟨e4.st, c.gg.trans e4.gg, fun b' h1 h2 => e4.gf b' h1 (c.gf b' h1 h2)⟩ : Aft K (Tr.hold F H2 M) G2 G4 H4 ρ4 σ3 L4)
      obtain ⟨L6, s6, sub6⟩ := c1.st.wipe (own.map (·.2))
      have ew : L2.wipe σ3 (own.map (·.2)) = L2.wipe σ (own.map (·.2)) := (ag.wipe hv).trans (wipe_wipe _ _)
      rw [ew] at s6
      refine ⟨_, G4, L6, M, acc, ⟨s6, b.gg.trans c1.gg, fun b' h1 h2 => c1.gf b' h1 (b.gf b' h1 h2)⟩, ⟨qc.r, qc.nd, qc.fr, fun a' ha' hl' => qc.ap a' ha' (sub6 a' hl')⟩, hI4, ?_⟩
      have h5 : ρ4.length = σ3.length := c1.st.sr.length
      rw [wipeR_length, h5, ag.1, L2.wipe_length, hl1]
  · have e : i = items.length := by omega
    subst e
    refine .inl ⟨wk.stops H2 (b.gg.trans b.st.gh), ?_⟩
    obtain ⟨L6, s6, sub6⟩ := Sta.back a.st b.gg b.st hlen (own.map (·.2))
    rw [back_wipe] at s6
    refine kt (.own acc) (.ref D) _ G2 H2 L6 M ⟨s6, a.gg.trans b.gg, fun b' h1 h2 => b.gf b' h1 (a.gf b' h1 h2)⟩ ⟨q.r, q.nd, q.fr, fun a' ha' hl' => q.ap a' ha' (sub6 a' hl')⟩ (hd acc ρ2 hI)
theorem e_lc (g : Gd Γ N sc X) {elt tg iter : Expr} {ifs : List Expr} {scope : Scope} {own : List (Str × Nat)} {t : Tg} {wi : WI} {wc : Env' → (Bool → Env' → Prop) → Prop} {we : WE}
    (hv : ∀ i ∈ tgVs t, i ∈ own.map (·.2))
    (hi : PI X tg iter (liftI X.K wi)) (ok : blkC N sc scope own = true) (ht : okTg N (locB scope) t tg = true)
    (hc : ∀ (s : Shared) (H : Hp) (C : Addr) (cl : List (Str × Addr)) (fp : List Addr), PTs (X.blk s H scope (compEnvC scope cl C X.env) fp) ifs (liftC X.K wc))
    (he : ∀ (s : Shared) (H : Hp) (C : Addr) (cl : List (Str × Addr)) (fp : List Addr), PE (X.blk s H scope (compEnvC scope cl C X.env) fp) elt (lift X.K we)) (pl : plainE iter = true) :
    PE X (.ListComp elt [⟨tg, iter, ifs, 0⟩] scope pos) (lift X.K (wLc t wi wc we (own.map (·.2)))) := by
  have bk : BlkOk X.N X.env.scope scope own := by rw [g.nm, g.sc]; exact blkOk_by ok
  exact PE.imp (pe_lc (g := liftG X.K (tgVs t) (wTg t)) (tt := liftC X.K wc) (te := lift X.K we) g.calm (by rw [g.nm]; exact g.nd) hi bk (fun s H C cl fp => g_tg (X := X.blk s H scope (compEnvC scope cl C X.env) fp) g.calm g.nm g.nd (GdT.blk scope s H C cl fp) t tg ht) hc he (folded_plain pl)) (lc_main hv)
theorem s_lc (g : Gd Γ N sc X) {elt tg iter : Expr} {ifs : List Expr} {scope : Scope} {own : List (Str × Nat)} {t : Tg} {wi : WI} {wc : Env' → (Bool → Env' → Prop) → Prop} {we : WE} {i : Nat} {y : Str} {py spos : Pos}
    (hy : N[i]? = some y) (hyl : sc.names.lookup y = some .local) (hsw : swapsWith (.ListComp elt [⟨tg, iter, ifs, 0⟩] scope pos) (some (.Name y py)) spos.line X.env = pure true)
    (hv : ∀ i ∈ tgVs t, i ∈ own.map (·.2))
    (hi : PI X tg iter (liftI X.K wi)) (ok : blkC N sc scope own = true) (ht : okTg N (locB scope) t tg = true)
    (hc : ∀ (s : Shared) (H : Hp) (C : Addr) (cl : List (Str × Addr)) (fp : List Addr), PTs (X.blk s H scope (compEnvC scope cl C X.env) fp) ifs (liftC X.K wc))
    (he : ∀ (s : Shared) (H : Hp) (C : Addr) (cl : List (Str × Addr)) (fp : List Addr), PE (X.blk s H scope (compEnvC scope cl C X.env) fp) elt (lift X.K we)) (pl : plainE iter = true) :
    PS X (.Assign [.Name y py] (.ListComp elt [⟨tg, iter, ifs, 0⟩] scope pos) spos) (tAsg (lift X.K (wLc t wi wc we (own.map (·.2)))) (gName i)) := by
  have bk : BlkOk X.N X.env.scope scope own := by rw [g.nm, g.sc]; exact blkOk_by ok
  exact PS.imp (ps_setLc (g := liftG X.K (tgVs t) (wTg t)) (tt := liftC X.K wc) (te := lift X.K we) g.calm (by rw [g.nm]; exact g.nd) (by rw [g.nm]; exact hy) (by rw [g.sc]; exact hyl) hsw hi bk (fun s H C cl fp => g_tg (X := X.blk s H scope (compEnvC scope cl C X.env) fp) g.calm g.nm g.nd (GdT.blk scope s H C cl fp) t tg ht) hc he (folded_plain pl)) fun D σ H q => lc_main hv σ H _ q
end
end Tr
set_option Elab.async false
set_option linter.all false
set_option maxRecDepth 100000
set_option maxHeartbeats 2000000
/-! The tree layer, part 13: list(range(..)), calls of the text's own defs. -/
namespace Tr
open PySem PySem.Spec PyProof.Rows L2
section
variable {Γ : Gam} {N : List Str} {sc : Scope} {X : Cx} {l r : Expr} {pos px pf pr : Pos} {w w1 w2 : WE}
theorem dq_rg {G : Hp} (lo : Int) : ∀ n : List Nat, DqAll G (n.map fun (k : Nat) => V.int (lo + k)) (n.map fun (k : Nat) => PyData.int (lo + k))
  | [] => .nil
  | k :: n => .cons (.int _) (dq_rg lo n)
theorem own_rg (lo : Int) (n : Nat) : ((List.range n).map fun (k : Nat) => Tv.d (.int (lo + k))) = ((List.range n).map fun (k : Nat) => PyData.int (lo + k)).map Tv.d := by rw [List.map_map]; rfl
theorem e_lrng1 (g : Gd Γ N sc X) (t : Bool) (hf : glB sc (if t then ("tuple" : Str) else ("list" : Str)) = true) (hg : glB sc "range" = true) (ha : PE X l (lift X.K w)) (pl : plainE l = true) :
    PB X (.Call (.Name (if t then ("tuple" : Str) else ("list" : Str)) pf) [.Call (.Name "range" px) [l] [] pr] [] pos) (fun ρ Q => w ρ fun y ρ2 => ∃ j, y = .d (.int j) ∧ -(2 ^ 62) ≤ (0 : Int) ∧ (0 : Int) < 2 ^ 62 ∧ -(2 ^ 62) ≤ j ∧ j < 2 ^ 62 ∧ (j - 0).toNat ≤ 2 ^ 24 ∧
      Q (if t then .d (.tuple ((List.range (j - 0).toNat).map fun (k : Nat) => .int (0 + k))) else .own ((List.range (j - 0).toNat).map fun (k : Nat) => .d (.int (0 + k)))) ρ2) := by
  have rg := prg_1 (X := X) (p := px) (pos := pr) (g.glo hg) (g.bl _ (by decide)) ha (starEach_plain pl)
  cases t with
  | true =>
    refine .val (PE.imp (pf_rng g.calm (g.glo hf) (g.bl _ (by decide)) rg (starEach_plain rfl)) fun σ H R ⟨F, G, ρ, L, Q, s, hw, k⟩ => ⟨F, G, ρ, L, _, s, hw, fun x v ρ1 G1 H1 L1 M a q ⟨j, e, h1, h2, h3, h4, h5, hq⟩ => ?_⟩)
    subst e
    exact ⟨j, q.r.dq.1.int_of, ⟨h1, h2, h3, h4, h5⟩, Kont.tup (Kont.step k a) a.st (dq_rg 0 _) hq⟩
  | false =>
    refine .val (PE.imp (pe_listRg g.calm (g.glo hf) (g.bl _ (by decide)) rg (starEach_plain rfl)) fun σ H R ⟨F, G, ρ, L, Q, s, hw, k⟩ => ⟨F, G, ρ, L, _, s, hw, fun x v ρ1 G1 H1 L1 M a q ⟨j, e, h1, h2, h3, h4, h5, hq⟩ => ?_⟩)
    subst e
    refine ⟨j, q.r.dq.1.int_of, ⟨h1, h2, h3, h4, h5⟩, fun p hp => Kont.lstD (Kont.step k a) a.st hp (dq_rg 0 _) ?_⟩
    rw [← own_rg]
    exact hq
theorem e_lrng2 (g : Gd Γ N sc X) (t : Bool) (hf : glB sc (if t then ("tuple" : Str) else ("list" : Str)) = true) (hg : glB sc "range" = true) (ha : PE X l (lift X.K w1)) (hb : PE X r (lift X.K w2)) (pl : plainE l = true) (plr : plainE r = true) :
    PB X (.Call (.Name (if t then ("tuple" : Str) else ("list" : Str)) pf) [.Call (.Name "range" px) [l, r] [] pr] [] pos) (fun ρ Q => w1 ρ fun x ρ1 => ∃ i, x = .d (.int i) ∧ w2 ρ1 fun y ρ2 => ∃ j, y = .d (.int j) ∧ -(2 ^ 62) ≤ i ∧ i < 2 ^ 62 ∧ -(2 ^ 62) ≤ j ∧ j < 2 ^ 62 ∧ (j - i).toNat ≤ 2 ^ 24 ∧
      Q (if t then .d (.tuple ((List.range (j - i).toNat).map fun (k : Nat) => .int (i + k))) else .own ((List.range (j - i).toNat).map fun (k : Nat) => .d (.int (i + k)))) ρ2) := by
  have rg := prg_2 (X := X) (p := px) (pos := pr) (g.glo hg) (g.bl _ (by decide)) ha hb (starEach_plain pl) (starEach_plain plr) (by rw [starEach_plain plr]; rfl)
  cases t with
  | true =>
    refine .val (PE.imp (pf_rng g.calm (g.glo hf) (g.bl _ (by decide)) rg (starEach_plain rfl)) fun σ H R ⟨F, G, ρ, L, Q, s, hw, k⟩ => ⟨F, G, ρ, L, _, s, hw, fun x v ρ1 G1 H1 L1 M a q ⟨i, e, hw2⟩ => ⟨F, G1, ρ1, L1, _, a.st, hw2, fun y u ρ2 G2 H2 L2 M2 b q2 ⟨j, e2, h1, h2, h3, h4, h5, hq⟩ => ?_⟩⟩)
    subst e
    subst e2
    exact ⟨i, j, q.r.dq.1.int_of, q2.r.dq.1.int_of, ⟨h1, h2, h3, h4, h5⟩, Kont.tup (Kont.step k (a.trans b)) b.st (dq_rg i _) hq⟩
  | false =>
    refine .val (PE.imp (pe_listRg g.calm (g.glo hf) (g.bl _ (by decide)) rg (starEach_plain rfl)) fun σ H R ⟨F, G, ρ, L, Q, s, hw, k⟩ => ⟨F, G, ρ, L, _, s, hw, fun x v ρ1 G1 H1 L1 M a q ⟨i, e, hw2⟩ => ⟨F, G1, ρ1, L1, _, a.st, hw2, fun y u ρ2 G2 H2 L2 M2 b q2 ⟨j, e2, h1, h2, h3, h4, h5, hq⟩ => ?_⟩⟩)
    subst e
    subst e2
    refine ⟨i, j, q.r.dq.1.int_of, q2.r.dq.1.int_of, ⟨h1, h2, h3, h4, h5⟩, fun p hp => Kont.lstD (Kont.step k (a.trans b)) b.st hp (dq_rg i _) ?_⟩
    rw [← own_rg]
    exact hq
end

/-! ### a def's promise, where no repr is under way -/
structure GnOk (P : Program) (w : World) (K : PySem.W.Frag) (mg : Str → Option Value) (base : Heap) (k : Nat) (f : Addr) (fd : FuncData) (ps : List Str) (sp : List V → Hp → VK → Prop) : Prop where
  len : ∀ vs H Q, sp vs H Q → vs.length = ps.length
  run : ∀ (A : Around) (outer : List Env) (s : Shared) (H : Hp) (args : Args) (us : List Value) (vs : List V) (Q : VK), Room k A → A.guards = some [] → Env0 P w K mg base A outer s H →
    BindsTo s fd args (ps.zip us) → Vals vs us → sp vs H Q → codeAny (model P w) A (.call (.ref f) args) (CR CX0 outer P w H s Q fun _ _ _ => False) s
theorem GnOk.mono {P : Program} {w : World} {K : PySem.W.Frag} {mg : Str → Option Value} {base : Heap} {j k : Nat} {f : Addr} {fd : FuncData} {ps : List Str} {sp : List V → Hp → VK → Prop} (F : GnOk P w K mg base j f fd ps sp) (h : j ≤ k) : GnOk P w K mg base k f fd ps sp :=
  ⟨F.len, fun A outer s H args us vs Q hr => F.run A outer s H args us vs Q (hr.mono h)⟩
/-- a def by its body -/
theorem gn_of {P : Program} {w : World} {K : PySem.W.Frag} {mg : Str → Option Value} {base : Heap} {k : Nat} {x qual : Str} {st : Stmt} {f : Addr} {fd : FuncData} {N ps : List Str} {sp : List V → Hp → VK → Prop}
    (F : Fun K x qual st f fd) (S : FnScope N ps (defScope st)) (len : ∀ vs H Q, sp vs H Q → vs.length = ps.length)
    (body : ∀ (cdv : Value) (A : Around) (outer : List Env) (s : Shared) (H : Hp) (vs : List V) (Q : VK), Room k (A.deeper (envOfC qual (defScope st) s.heap.objs.size f cdv)) → A.guards = some [] → sp vs H Q →
      ∃ t, PSs (cxOf CX0 P w K mg base N qual (defScope st) f cdv A outer s H fun _ _ _ => False).nox (defBody st) t ∧ t { nx := fun _ H' => Q .non H', rt := Q } (start N vs) H) :
    GnOk P w K mg base (k + 1) f fd ps sp := by
  obtain ⟨oc, od, kV, doc, pm, an, cdv, ct, osl, rfl, lk, hcd⟩ := F.ex
  refine ⟨len, fun A outer s H args us vs Q room guards e0 bound rel prom => ?_⟩
  have hl := len _ _ _ prom
  have kin : K.In s.heap := e0.mod.kin.keeps fun b o e => (e0.bs b o e).1
  have par : ∀ y ∈ ps.zip us, (defScope st).names.lookup y.1 = some .local ∨ ((defScope st).names.lookup y.1 = some .cell ∧
      ((cellsFrom (s.heap.objs.size + 1) (defScope st).names []).lookup y.1).isSome = true) := fun ⟨n, v⟩ hy =>
    (S.par n (List.of_mem_zip hy).1).imp id fun q => ⟨q, PySem.W.cellsFrom_some _ _ _ (.inl q)⟩
  refine codeAny_call_function room.depth (kin _ _ lk) rfl S.co S.gen rfl (PySem.W.codeRec_of kin hcd) (bound _ _ _ _ ?_)
  refine wpAny_newFunctionEnv_cells S.kind par fun env he s1 x1 => ?_
  subst he
  refine ⟨(e0.mod.nolimit.keeps fun b o e => (e0.bs b o e).1).keeps x1.toInCall.keep, codeAny_func ?_⟩
  obtain ⟨t, ht, hq⟩ := body cdv A outer s H vs Q (room.deeper _) guards prom
  have inv : Inv (cxOf CX0 P w K mg base N qual (defScope st) f cdv A outer s H fun _ _ _ => False) [] (start N vs) H s1 := inv_start S room.hd e0 hl rel x1
  refine wpAny_mono (ht.nox.run [] s1 (start N vs) H _ inv hq) (fun fl s' hs => ?_) fun e s' hs => hs
  cases fl with
  | ret u =>
    obtain ⟨v, σ', H', J, rv, q⟩ := hs
    exact ⟨v, H', J.os, J.bare, J.base, J.hok, rv, q⟩
  | next =>
    obtain ⟨σ', H', J, q⟩ := hs
    exact ⟨V.non, H', J.os, J.bare, J.base, J.hok, rfl, q⟩
  | brk => obtain ⟨_, _, _, q⟩ := hs; exact False.elim q
  | cont => obtain ⟨_, _, _, q⟩ := hs; exact False.elim q

/-- how keywords bind -/
def BK (fd : FuncData) (ps ks : List Str) : Prop := ∀ (s : Shared) (ws as : List Value), ks.length = ws.length → kperm ks ws ps = some as → BindsTo s fd ⟨[], ks.zip ws⟩ (ps.zip as)
section
variable {X : Cx} {k : Nat} {f : Addr} {fd : FuncData} {ps ks : List Str} {sp : List V → Hp → VK → Prop} {x : Str} {p pos : Pos} {e : Expr} {es : List Expr} {t : TA} {kws : List Keyword}
theorem gn_end {outer : List Env} {P : Program} {w : World} {H : Hp} {s s' : Shared} {Q : VK} {r : Result} (h : CR CX0 outer P w H s Q (fun _ _ _ => False) r s') : ∃ u, r = .ok (.ret u) ∧ CE outer P w H s Q u s' := by
  cases r with
  | error e => exact False.elim h
  | ok fl =>
    cases fl with
    | ret u => exact ⟨u, rfl, h⟩
    | next => exact False.elim h
    | brk => exact False.elim h
    | cont => exact False.elim h
theorem pe_gn (F : GnOk X.prog X.w X.K X.mg X.base k f fd ps sp) (hr : Room k X.A) (hgd : X.A.guards = some []) (hg : Gl X x) (hm : X.mg x = some (.ref f)) (hk : PySem.W.keepIn X.K (.ref f) = true) (hb : Binds X.K fd ps [])
    (ha : PA X (e :: es) t) (hdb : (x == ("__debug__" : Str)) = false) (he : starEach (e :: es) X.env = (false, eval e X.env) :: starEach es X.env) (hpl : (backTo pos (starEach es X.env)).any (·.1) = false) :
    PE X (.Call (.Name x p) (e :: es) [] pos) (fun σ H Q => t σ H fun vs H1 => sp vs H1 Q) := by
  refine ⟨fun pins s σ H Q I h => wpAny_Call_Name_kw (ld_glob I hg hm ?_ hdb)⟩
  refine PySem.W.callWith_K (h₀ := X.base) I.ok.mod.kin hk (thn (ha.run pos pins s σ H _ I h) fun us s1 ⟨vs, H1, I1, r, q⟩ => ⟨I1.kIn, ?_⟩) he hpl
  have hl : us.length = ps.length := by rw [← r.length]; exact F.len _ _ _ q
  refine wpAny_call (codeAny_mono (F.run X.A X.stack s1 H1 ⟨us, []⟩ us vs Q hr hgd I1.env0 (by have := hb s1 us I1.kIn (by simpa using hl); rwa [List.append_nil] at this) r q) fun rr s' hq => ?_)
  obtain ⟨u, rfl, c⟩ := gn_end hq
  exact I1.after c
theorem pe_gnK (F : GnOk X.prog X.w X.K X.mg X.base k f fd ps sp) (hr : Room k X.A) (hgd : X.A.guards = some []) (hg : Gl X x) (hm : X.mg x = some (.ref f)) (hk : PySem.W.keepIn X.K (.ref f) = true) (hb : BK fd ps ks)
    (hkw : PK X kws t) (hall : (backToKw pos (keywordEach kws X.env)).all (·.1.isSome) = true) (hks : (backToKw pos (keywordEach kws X.env)).filterMap (·.1) = ks)
    (hdb : (x == ("__debug__" : Str)) = false) (hpl : ((backTo pos (starEach [] X.env)).any (·.1) || (backToKw pos (keywordEach kws X.env)).any (·.1.isNone)) = false) :
    PE X (.Call (.Name x p) [] kws pos) (fun σ H Q => t σ H fun vs H1 => ks.length = vs.length ∧ ∃ vas, kperm ks vs ps = some vas ∧ (∀ us : List Value, Vals vs us → ∃ uas, kperm ks us ps = some uas ∧ Vals vas uas) ∧ sp vas H1 Q) := by
  refine ⟨fun pins s σ H Q I h => wpAny_Call_Name_kw (ld_glob I hg hm ?_ hdb)⟩
  refine PySem.W.callWith_KW0 (h₀ := X.base) I.ok.mod.kin hk hall ?_ hpl
  refine thn (hkw.run pos pins s σ H _ I h) fun us s1 ⟨vs, H1, I1, r, hlen, vas, h1, h2, q⟩ => ⟨I1.kIn, ?_⟩
  rw [hks]
  obtain ⟨uas, h3, r3⟩ := h2 us r
  refine wpAny_call (codeAny_mono (F.run X.A X.stack s1 H1 ⟨[], ks.zip us⟩ uas vas Q hr hgd I1.env0 (hb s1 us uas (by rw [hlen]; exact r.length) h3) r3 q) fun rr s' hq => ?_)
  obtain ⟨u, rfl, c⟩ := gn_end hq
  exact I1.after c
end
/-! ### a def over trees -/
def liftF (K : PySem.W.Frag) (ow : Option Nat) (fs : FS) : List V → Hp → VK → Prop := fun vs H R => ∃ F G xs L Q, Sta K F G H (xs.map some) (vs.map some) L ∧ fs xs Q ∧
  ∀ z v ns σ' G' H' L' M, Aft K F G G' H' ns σ' L' → Val K F G' H' L' z v M → (∀ i, ow = some i → σ'[i]? = vs[i]?.map some) → Q z ns → R v H'
section
variable {K : PySem.W.Frag} {F G H : Hp} {σ : L2.St} {ρ : Env'} {L M : List Addr}
theorem argT_frz {x y : Tv} (h : argT x = some y) : (∃ ns, x = .scr ns ∧ y = .scr ns) ∨ ∃ d, x.frz = some d ∧ y = .d d := by
  cases x with
  | scr ns => exact .inl ⟨ns, rfl, (Option.some.inj h).symm⟩
  | d d => exact .inr ⟨d, rfl, (Option.some.inj h).symm⟩
  | own xs =>
    have h : (Tv.own xs).frz.map Tv.d = some y := h
    cases e : (Tv.own xs).frz with
    | none => rw [e] at h; cases h
    | some d => rw [e] at h; exact .inr ⟨d, rfl, (Option.some.inj h).symm⟩
theorem argTs_cons {x : Tv} {xs ys : List Tv} (h : argTs (x :: xs) = some ys) : ∃ a as, argT x = some a ∧ argTs xs = some as ∧ ys = a :: as := by
  rw [argTs] at h
  split at h
  · rename_i a as e1 e2
    exact ⟨a, as, e1, e2, (Option.some.inj h).symm⟩
  · cases h
theorem ORs.args {B : List Addr} (hB : ∀ a ∈ B, G a = none) : ∀ {xs ys : List Tv} {vs : List V} {M : List Addr}, ORs K G H xs vs M → argTs xs = some ys → (∀ a ∈ M, a ∈ B) → ORs K (freeze G H B) H ys vs []
  | _, _, _, _, .nil, h, _ => by rw [argTs] at h; cases h; exact .nil
  | _, _, _, _, .cons o t, h, hM => by
    obtain ⟨a, as, h1, h2, rfl⟩ := argTs_cons h
    have t' := ORs.args hB t h2 fun c hc => hM c (by simp [hc])
    rcases argT_frz h1 with ⟨ns, rfl, rfl⟩ | ⟨d, hd, rfl⟩
    · cases o with
      | scr o => exact ORs.cons (L := []) (.scr ((freeze_grow hB).seq o)) t'
    · exact ORs.cons (L := []) (.d (o.frozen hB hd fun c hc => hM c (by simp [hc]))) t'
theorem Sta.frozenA {xs ys : List Tv} {vs : List V} (s : Sta K F G H ρ σ L) (q : ValL K F G H L xs vs M) (e : argTs xs = some ys) : Aft K F G (freeze G H M) H ρ σ L ∧ ORs K (freeze G H M) H ys vs [] := by
  have hM : ∀ a ∈ M, G a = none := fun a ha => (q.r.there a ha).2
  refine ⟨⟨⟨s.sr.step (freeze_grow hM) (fun _ _ => rfl) fun a ha => ?_, s.nd, s.fr, s.fh, freeze_same s.gh⟩, freeze_grow hM, fun a h1 h2 => ?_⟩, ORs.args hM q.r e fun _ h => h⟩
  · rw [freeze_out fun h => q.ap a h ha]
    exact (s.sr.there a ha).2
  · by_cases h : a ∈ M
    · exact absurd (q.fr a h) h1
    · rw [freeze_out h]
      exact h2
theorem ORs.sr : ∀ {xs : List Tv} {vs : List V} {L : List Addr}, ORs K G H xs vs L → SR K G H (xs.map some) (vs.map some) L
  | _, _, _, .nil => .nil
  | _, _, _, .cons h t => .yes h t.sr
theorem SR.nones : ∀ n : Nat, SR K G H (List.replicate n none) (List.replicate n none) []
  | 0 => .nil
  | n + 1 => by rw [List.replicate_succ, List.replicate_succ]; exact .no (SR.nones n)
theorem SR.append : ∀ {ρ ρ' : Env'} {σ σ' : L2.St} {L M : List Addr}, SR K G H ρ σ L → SR K G H ρ' σ' M → SR K G H (ρ ++ ρ') (σ ++ σ') (L ++ M)
  | _, _, _, _, _, _, .nil, h => h
  | _, _, _, _, _, _, .no t, h => .no (t.append h)
  | _, _, _, _, _, _, .yes o t, h => by
    have := SR.yes o (t.append h)
    simpa [List.append_assoc] using this
/-- all that one holds stands while a callee runs -/
theorem hold_le' {B : List Addr} (h : ∀ a ∈ B, F a = none) : Same F (hold F H B) := hold_le h
theorem Sta.held {B : List Addr} (s : Sta K F G H ρ σ L) (hB : ∀ a ∈ B, a ∈ L) : Same F (Tr.hold F H B) ∧ Same (Tr.hold F H B) H := by
  refine ⟨hold_le fun a ha => s.fr a (hB a ha), fun a o e => ?_⟩
  unfold Tr.hold at e
  split at e
  · exact e
  · exact s.fh a o e
end
section
variable {K : PySem.W.Frag} {F G H : Hp} {σ : L2.St} {ρ : Env'} {L M : List Addr} {Q : Tv → Env' → Prop} {R : VK}
/-- a call that only reads -/
theorem call_data {ys : List Tv} {vs : List V} {fs : FS} {w : Option Nat} (hw : w = none) (s : Sta K F G H ρ σ L) (q : ORs K G H ys vs []) (hf : fs ys fun z _ => Q z ρ) (k : Kont K F G σ Q R) : liftF K w fs vs H R := by
  have hh := s.held (fun a h => h)
  refine ⟨Tr.hold F H L, G, ys, [], _, ⟨q.sr, List.nodup_nil, fun _ z => absurd z (by simp), hh.2, s.gh⟩, hf, fun z v ns σ' G' H' L' M a qv _ hq => ?_⟩
  have same : ∀ b ∈ L, H' b = H b := fun b hb => by
    obtain ⟨⟨o, ho⟩, _⟩ := s.sr.there b hb
    have := a.st.fh b o (by rw [hold_in hb]; exact ho)
    rw [this, ho]
  have gn : ∀ b ∈ L, G' b = none := fun b hb => by
    obtain ⟨⟨o, ho⟩, hn⟩ := s.sr.there b hb
    refine a.gf b ?_ hn
    rw [hold_in hb, ho]
    exact fun z => by cases z
  refine k z v ρ G' H' L M ⟨⟨s.sr.step a.gg same gn, s.nd, s.fr, hh.1.trans a.st.fh, a.st.gh⟩, a.gg, fun b h1 h2 => a.gf b (ne_of_some hh.1 h1) h2⟩ ⟨qv.r, qv.nd, fun b hb => hh.1.free (qv.fr b hb), fun b hb hl => ?_⟩ hq
  have := qv.fr b hb
  obtain ⟨⟨o, ho⟩, _⟩ := s.sr.there b hl
  rw [hold_in hl, ho] at this
  cases this
/-- a call whose first argument is a list that a name holds -/
theorem call_own {i : Nat} {ts : List Tv} {ys : List Tv} {v0 : V} {vs : List V} {fs : FS} (s : Sta K F G H ρ σ L) (e : ρ[i]? = some (some (.own ts))) (ev : σ[i]? = some (some v0)) (q : ORs K G H ys vs [])
    (hf : fs (.own ts :: ys) fun z news => ∃ x', news[0]? = some (some x') ∧ Q z (ρ.set i (some x'))) (k : Kont K F G σ Q R) : liftF K (some 0) fs (v0 :: vs) H R := by
  obtain ⟨v, P, M, S, e1, e2, r, put, _⟩ := s.sr.at e
  rw [ev] at e2
  cases e2
  have nd := s.nd
  rw [e1] at nd
  have sub : ∀ a ∈ P ++ S, a ∈ L := fun a ha => by rw [e1]; rcases List.mem_append.mp ha with h | h <;> simp [h]
  have apart : ∀ a ∈ M, a ∉ P ++ S := fun a ha hps => by
    rw [List.append_assoc, List.nodup_append] at nd
    obtain ⟨n1, n2, n3⟩ := nd
    rw [List.nodup_append] at n2
    rcases List.mem_append.mp hps with h | h
    · exact n3 a h a (by simp [ha]) rfl
    · exact n2.2.2 a ha a h rfl
  have hh := s.held sub
  refine ⟨Tr.hold F H (P ++ S), G, .own ts :: ys, M, _, ⟨?_, ?_, fun a ha => ?_, hh.2, s.gh⟩, hf, fun z v' ns σ' G' H' L' M' a qv kp ⟨x', hx', hq⟩ => ?_⟩
  · have := SR.yes r q.sr
    simpa using this
  · exact nd.sublist (by simp)
  · unfold Tr.hold
    rw [if_neg (apart a ha)]
    exact s.fr a (by rw [e1]; simp [ha])
  have kp0 := kp 0 rfl
  simp only [List.getElem?_cons_zero, Option.map_some] at kp0
  obtain ⟨u, P', M0, S', f1, f2, r0, _⟩ := a.st.sr.at hx'
  rw [kp0] at f2
  cases f2
  have same : ∀ b ∈ P ++ S, H' b = H b := fun b hb => by
    obtain ⟨⟨o, ho⟩, _⟩ := s.sr.there b (sub b hb)
    have := a.st.fh b o (by rw [hold_in hb]; exact ho)
    rw [this, ho]
  have gn : ∀ b ∈ P ++ S, G' b = none := fun b hb => by
    obtain ⟨⟨o, ho⟩, hn⟩ := s.sr.there b (sub b hb)
    refine a.gf b ?_ hn
    rw [hold_in hb, ho]
    exact fun z => by cases z
  have m0 : ∀ b ∈ M0, b ∈ L' := fun b hb => by rw [f1]; simp [hb]
  have out : ∀ b, Tr.hold F H (P ++ S) b = none → b ∉ P ++ S := fun b hn hb => by
    obtain ⟨⟨o, ho⟩, _⟩ := s.sr.there b (sub b hb)
    rw [hold_in hb, ho] at hn
    cases hn
  have put' := put a.gg same gn r0
  rw [set_same ev] at put'
  have ndL' := a.st.nd
  rw [f1] at ndL'
  have ndM0 : M0.Nodup := ndL'.sublist (by simp)
  have mem3 : ∀ b ∈ P ++ M0 ++ S, b ∈ P ++ S ∨ b ∈ M0 := fun b hb => by
    rcases List.mem_append.mp hb with h | h
    · rcases List.mem_append.mp h with h | h
      · exact .inl (by simp [h])
      · exact .inr h
    · exact .inl (by simp [h])
  refine k z v' _ G' H' (P ++ M0 ++ S) M' ⟨⟨put', ?_, fun b hb => ?_, hh.1.trans a.st.fh, a.st.gh⟩, a.gg, fun b h1 h2 => a.gf b (ne_of_some hh.1 h1) h2⟩ ⟨qv.r, qv.nd, fun b hb => hh.1.free (qv.fr b hb), fun b hb hl => ?_⟩ hq
  · have n0 : (P ++ S).Nodup := nd.sublist (by simp)
    rw [List.nodup_append] at n0
    rw [List.nodup_append]
    refine ⟨?_, n0.2.1, fun a1 h1 b1 hb e => ?_⟩
    · rw [List.nodup_append]
      exact ⟨n0.1, ndM0, fun a1 h1 b1 hb e => out b1 (a.st.fr b1 (m0 b1 hb)) (by rw [← e]; simp [h1])⟩
    · rcases List.mem_append.mp h1 with h | h
      · exact n0.2.2 a1 h b1 hb e
      · exact out a1 (a.st.fr a1 (m0 a1 h)) (by rw [e]; simp [hb])
  · rcases mem3 b hb with h | h
    · exact s.fr b (sub b h)
    · exact hh.1.free (a.st.fr b (m0 b h))
  · rcases mem3 b hl with h | h
    · exact out b (qv.fr b hb) h
    · exact qv.ap b hb (m0 b h)
end
end Tr
set_option Elab.async false
set_option linter.all false
set_option maxRecDepth 100000
set_option maxHeartbeats 2000000
/-! The tree layer, part 14: own lists written in place; calls of defs; methods of lists. -/
namespace Tr
open PySem PySem.Spec PyProof.Rows L2
section
variable {K : PySem.W.Frag} {F G G' H H' : Hp} {σ : L2.St} {ρ : Env'} {L M : List Addr}
theorem ORs.at : ∀ {xs : List Tv} {vs : List V} {L : List Addr} {i : Nat} {x : Tv}, ORs K G H xs vs L → xs[i]? = some x →
    ∃ v P M S, L = P ++ M ++ S ∧ vs[i]? = some v ∧ OR K G H x v M ∧
      ∀ {H' : Hp} {x' : Tv} {v' : V} {M' : List Addr}, (∀ a ∈ P ++ S, H' a = H a) → OR K G H' x' v' M' → ORs K G H' (xs.set i x') (vs.set i v') (P ++ M' ++ S)
  | _, _, _, _, _, .nil, e => by simp at e
  | _, _, _, 0, _, .cons (v := v) (L := L) (M := M) h t, e => by
    simp at e; subst e
    exact ⟨v, [], L, M, rfl, rfl, h, fun k q => .cons q (t.step (Same.refl _) (fun a ha => k a ha) fun a ha => (t.there a ha).2)⟩
  | _, _, _, i + 1, x, .cons (L := L) h0 t, e => by
    obtain ⟨v, P, M, S, e1, e2, h, k1⟩ := ORs.at (i := i) t (by simpa using e)
    refine ⟨v, L ++ P, M, S, by rw [e1]; simp, by simpa using e2, h, fun k q => ?_⟩
    have := ORs.cons (h0.step (Same.refl _) (fun a ha => k a (by simp [ha])) fun a ha => (h0.there a ha).2) (k1 (fun a ha => k a (by rcases List.mem_append.mp ha with h | h <;> simp [h])) q)
    simpa [List.append_assoc] using this
/-- the removed one -/
theorem ORs.erase : ∀ {xs : List Tv} {vs : List V} {L : List Addr} {i : Nat} {x : Tv}, ORs K G H xs vs L → xs[i]? = some x →
    ∃ v P M S, L = P ++ M ++ S ∧ vs[i]? = some v ∧ OR K G H x v M ∧ ORs K G H (xs.eraseIdx i) (vs.eraseIdx i) (P ++ S)
  | _, _, _, _, _, .nil, e => by simp at e
  | _, _, _, 0, _, .cons (v := v) (L := L) (M := M) h t, e => by
    simp at e; subst e
    exact ⟨v, [], L, M, rfl, rfl, h, t⟩
  | _, _, _, i + 1, x, .cons (L := L) h0 t, e => by
    obtain ⟨v, P, M, S, e1, e2, h, k1⟩ := ORs.erase (i := i) t (by simpa using e)
    refine ⟨v, L ++ P, M, S, by rw [e1]; simp, by simpa using e2, h, ?_⟩
    have := ORs.cons h0 k1
    simpa [List.append_assoc] using this
theorem ORs.cat : ∀ {xs ys : List Tv} {vs us : List V} {L M : List Addr}, ORs K G H xs vs L → ORs K G H ys us M → ORs K G H (xs ++ ys) (vs ++ us) (L ++ M)
  | _, _, _, _, _, _, .nil, h => h
  | _, _, _, _, _, _, .cons o t, h => by
    have := ORs.cons o (t.cat h)
    simpa [List.append_assoc] using this
theorem mem_mid {P M S : List Addr} {a : Addr} : a ∈ P ++ M ++ S ↔ a ∈ P ++ S ∨ a ∈ M := by
  simp only [List.mem_append]
  constructor
  · rintro ((h | h) | h)
    · exact .inl (.inl h)
    · exact .inr h
    · exact .inl (.inr h)
  · rintro ((h | h) | h)
    · exact .inl (.inl h)
    · exact .inr h
    · exact .inl (.inr h)
theorem nodup_mid {P M S : List Addr} (h : (P ++ M ++ S).Nodup) : (P ++ S).Nodup ∧ M.Nodup ∧ ∀ a ∈ M, a ∉ P ++ S := by
  refine ⟨h.sublist (by simp), h.sublist (by simp), fun a ha hps => ?_⟩
  rw [List.append_assoc, List.nodup_append] at h
  obtain ⟨n1, n2, n3⟩ := h
  rw [List.nodup_append] at n2
  rcases List.mem_append.mp hps with h | h
  · exact n3 a h a (by simp [ha]) rfl
  · exact n2.2.2 a ha a h rfl
theorem mid_nodup {P M S : List Addr} (h : (P ++ S).Nodup) (hm : M.Nodup) (ap : ∀ a ∈ M, a ∉ P ++ S) : (P ++ M ++ S).Nodup := by
  rw [List.nodup_append] at h
  rw [List.nodup_append]
  refine ⟨?_, h.2.1, fun a ha b hb e => ?_⟩
  · rw [List.nodup_append]
    exact ⟨h.1, hm, fun a ha b hb e => ap b hb (by rw [← e]; simp [ha])⟩
  · rcases List.mem_append.mp ha with q | q
    · exact h.2.2 a q b hb e
    · exact ap a q (by rw [e]; simp [hb])
/-- a name's own list, as it stands, and how it is written -/
theorem Sta.own {i : Nat} {ts : List Tv} (s : Sta K F G H ρ σ L) (e : ρ[i]? = some (some (.own ts))) : ∃ a vs M', σ[i]? = some (some (.ref a)) ∧ H a = some (.lst vs) ∧ ORs K G H ts vs M' ∧ M'.Nodup ∧ (∀ b ∈ M', b ∈ L) ∧ a ∈ L ∧ a ∉ M' ∧
    ∀ {ts' : List Tv} {vs' : List V} {M'' : List Addr}, ORs K G H ts' vs' M'' → M''.Nodup → (∀ b ∈ M'', b ∈ M' ∨ (b ∉ L ∧ F b = none)) →
      ∃ L', Aft K F G G (upd H a (.lst vs')) (ρ.set i (some (.own ts'))) σ L' ∧ ∀ b ∈ L', (b ∈ L ∧ (b ∈ M' → b ∈ M'')) ∨ b ∈ M'' := by
  obtain ⟨v, P, M, S, e1, e2, r, put, _⟩ := s.sr.at e
  cases r with
  | own hA hG r =>
    rename_i a vs M'
    have nd := s.nd
    rw [e1] at nd
    obtain ⟨n1, n2, n3⟩ := nodup_mid nd
    have n2' := List.nodup_cons.mp n2
    have aL : a ∈ L := by rw [e1]; simp
    have ML : ∀ b ∈ M', b ∈ L := fun b hb => by rw [e1]; simp [hb]
    have PL : ∀ b ∈ P ++ S, b ∈ L := fun b hb => by rw [e1]; exact mem_mid.mpr (.inl hb)
    refine ⟨a, vs, M', e2, hA, r, n2'.2, ML, aL, n2'.1, fun {ts' vs' M''} r' nd' hM => ?_⟩
    have aM : a ∉ M'' := fun h => by
      rcases hM a h with q | q
      · exact n2'.1 q
      · exact q.1 aL
    have ne : ∀ b ∈ M'', b ≠ a := fun b hb z => aM (z ▸ hb)
    have neP : ∀ b ∈ P ++ S, b ≠ a := fun b hb z => n3 a (by simp) (z ▸ hb)
    have put' := put (G' := G) (H' := upd H a (.lst vs')) (x' := .own ts') (v' := .ref a) (M' := a :: M'') (Same.refl _) (fun b hb => upd_ne (neP b hb)) (fun b hb => (s.sr.there b (PL b hb)).2)
      (.own upd_same hG (r'.step (Same.refl _) (fun b hb => upd_ne (ne b hb)) fun b hb => (r'.there b hb).2))
    rw [set_same e2] at put'
    have disj : ∀ b ∈ a :: M'', b ∉ P ++ S := fun b hb hp => by
      rcases List.mem_cons.mp hb with q | q
      · exact neP b hp q
      · rcases hM b q with z | z
        · exact n3 b (by simp [z]) hp
        · exact z.1 (PL b hp)
    refine ⟨_, ⟨⟨put', mid_nodup n1 (List.nodup_cons.mpr ⟨aM, nd'⟩) disj, fun b hb => ?_, fun b o q => ?_, fun b o q => ?_⟩, Same.refl _, fun _ _ h => h⟩, fun b hb => ?_⟩
    · rcases mem_mid.mp hb with q | q
      · exact s.fr b (PL b q)
      · rcases List.mem_cons.mp q with q | q
        · rw [q]; exact s.fr a aL
        · rcases hM b q with z | z
          · exact s.fr b (ML b z)
          · exact z.2
    · rw [upd_ne (fun z => by rw [z, s.fr a aL] at q; cases q)]; exact s.fh b o q
    · rw [upd_ne (fun z => by rw [z, hG] at q; cases q)]; exact s.gh b o q
    · rcases mem_mid.mp hb with q | q
      · exact .inl ⟨PL b q, fun hm => absurd q (n3 b (by simp [hm]))⟩
      · rcases List.mem_cons.mp q with q | q
        · exact .inl ⟨by rw [q]; exact aL, fun hm => absurd (q ▸ hm) n2'.1⟩
        · exact .inr q
/-- xs[j1][j] of a name's own list of own lists -/
theorem Sta.own2 {i j1 : Nat} {ts us : List Tv} (s : Sta K F G H ρ σ L) (e : ρ[i]? = some (some (.own ts))) (e1 : ts[j1]? = some (.own us)) : ∃ a vs b ws N', σ[i]? = some (some (.ref a)) ∧ H a = some (.lst vs) ∧ vs.length = ts.length ∧ vs[j1]? = some (.ref b) ∧
    H b = some (.lst ws) ∧ ORs K G H us ws N' ∧ N'.Nodup ∧ (∀ c ∈ N', c ∈ L) ∧
    ∀ {us' : List Tv} {ws' : List V} {M'' : List Addr}, ORs K G H us' ws' M'' → M''.Nodup → (∀ c ∈ M'', c ∈ N' ∨ (c ∉ L ∧ F c = none)) →
      ∃ L', Aft K F G G (upd H b (.lst ws')) (ρ.set i (some (.own (ts.set j1 (.own us'))))) σ L' := by
  obtain ⟨v, P, M, S, f1, f2, r, put, _⟩ := s.sr.at e
  cases r with
  | own hA hG r =>
    rename_i a vs M'
    obtain ⟨w, P2, M2, S2, g1, g2, r2, put2⟩ := r.at e1
    cases r2 with
    | own hB hGb r3 =>
      rename_i b ws N'
      have nd := s.nd
      rw [f1] at nd
      obtain ⟨n1, n2, n3⟩ := nodup_mid nd
      have n2' := List.nodup_cons.mp n2
      have nd2 := n2'.2
      rw [g1] at nd2
      obtain ⟨m1, m2, m3⟩ := nodup_mid nd2
      have m2' := List.nodup_cons.mp m2
      have inM : ∀ c ∈ P2 ++ (b :: N') ++ S2, c ∈ L := fun c hc => by rw [f1]; refine mem_mid.mpr (.inr (List.mem_cons_of_mem _ ?_)); rw [g1]; exact hc
      have aL : a ∈ L := by rw [f1]; simp
      have bL : b ∈ L := inM b (by simp)
      have PL : ∀ c ∈ P ++ S, c ∈ L := fun c hc => by rw [f1]; exact mem_mid.mpr (.inl hc)
      have ba : b ≠ a := fun z => n2'.1 (by rw [g1, ← z]; simp)
      have NL : ∀ c ∈ N', c ∈ L := fun c hc => inM c (by simp [hc])
      refine ⟨a, vs, b, ws, N', f2, hA, r.length.symm, g2, hB, r3, m2'.2, NL, fun {us' ws' M''} r' nd' hM => ?_⟩
      have bM : b ∉ M'' := fun h => by
        rcases hM b h with q | q
        · exact m2'.1 q
        · exact q.1 bL
      have neB : ∀ c ∈ M'', c ≠ b := fun c hc z => bM (z ▸ hc)
      have neP2 : ∀ c ∈ P2 ++ S2, c ≠ b := fun c hc z => m3 b (by simp) (z ▸ hc)
      have neP : ∀ c ∈ P ++ S, c ≠ b := fun c hc z => n3 b (by rw [g1]; simp) (z ▸ hc)
      have q2 := put2 (H' := upd H b (.lst ws')) (x' := .own us') (v' := .ref b) (M' := b :: M'') (fun c hc => upd_ne (neP2 c hc)) (.own upd_same hGb (r'.step (Same.refl _) (fun c hc => upd_ne (neB c hc)) fun c hc => (r'.there c hc).2))
      rw [set_same g2] at q2
      have inner : ∀ c ∈ b :: M'', c ∉ P2 ++ S2 := fun c hc hp => by
        rcases List.mem_cons.mp hc with q | q
        · exact neP2 c hp q
        · rcases hM c q with z | z
          · exact m3 c (by simp [z]) hp
          · exact z.1 (inM c (mem_mid.mpr (.inl hp)))
      have ndI := mid_nodup m1 (List.nodup_cons.mpr ⟨bM, nd'⟩) inner
      have aI : a ∉ P2 ++ (b :: M'') ++ S2 := fun h => by
        rcases mem_mid.mp h with q | q
        · exact n2'.1 (by rw [g1]; exact mem_mid.mpr (.inl q))
        · rcases List.mem_cons.mp q with q | q
          · exact ba q.symm
          · rcases hM a q with z | z
            · exact n2'.1 (by rw [g1]; exact mem_mid.mpr (.inr (by simp [z])))
            · exact z.1 aL
      have put' := put (G' := G) (H' := upd H b (.lst ws')) (x' := .own (ts.set j1 (.own us'))) (v' := .ref a) (M' := a :: (P2 ++ (b :: M'') ++ S2)) (Same.refl _) (fun c hc => upd_ne (neP c hc)) (fun c hc => (s.sr.there c (PL c hc)).2)
        (.own (by rw [upd_ne ba.symm]; exact hA) hG q2)
      rw [set_same f2] at put'
      have outer : ∀ c ∈ a :: (P2 ++ (b :: M'') ++ S2), c ∉ P ++ S := fun c hc hp => by
        rcases List.mem_cons.mp hc with q | q
        · exact n3 c (by simp [q]) hp
        · rcases mem_mid.mp q with q | q
          · exact n3 c (by rw [g1]; exact List.mem_cons_of_mem _ (mem_mid.mpr (.inl q))) hp
          · rcases List.mem_cons.mp q with q | q
            · exact neP c hp q
            · rcases hM c q with z | z
              · exact n3 c (by rw [g1]; exact List.mem_cons_of_mem _ (mem_mid.mpr (.inr (by simp [z])))) hp
              · exact z.1 (PL c hp)
      refine ⟨_, ⟨⟨put', mid_nodup n1 (List.nodup_cons.mpr ⟨aI, ndI⟩) outer, fun c hc => ?_, fun c o q => ?_, fun c o q => ?_⟩, Same.refl _, fun _ _ h => h⟩⟩
      · rcases mem_mid.mp hc with q | q
        · exact s.fr c (PL c q)
        · rcases List.mem_cons.mp q with q | q
          · rw [q]; exact s.fr a aL
          · rcases mem_mid.mp q with q | q
            · exact s.fr c (inM c (mem_mid.mpr (.inl q)))
            · rcases List.mem_cons.mp q with q | q
              · rw [q]; exact s.fr b bL
              · rcases hM c q with z | z
                · exact s.fr c (NL c z)
                · exact z.2
      · rw [upd_ne (fun z => by rw [z, s.fr b bL] at q; cases q)]; exact s.fh c o q
      · rw [upd_ne (fun z => by rw [z, hGb] at q; cases q)]; exact s.gh c o q
end

/-! ### calls -/
/-- the defs that a body may call -/
structure GdC (Φ : Phi) (k : Nat) (X : Cx) : Prop where
  rm : Room k X.A
  fns : ∀ f fe, Φ f = some fe → ∃ addr fd, X.mg f = some (.ref addr) ∧ PySem.W.keepIn X.K (.ref addr) = true ∧ GnOk X.prog X.w X.K X.mg X.base k addr fd fe.ps (liftF X.K fe.ow fe.fs) ∧ Binds X.K fd fe.ps [] ∧ ∀ ks ∈ fe.kw, BK fd fe.ps ks
theorem GdC.blk {Φ : Phi} {k : Nat} {X : Cx} (g : GdC Φ k X) (scope : Scope) (s : Shared) (H : Hp) (C : Addr) (cl : List (Str × Addr)) (fp : List Addr) : GdC Φ k (X.blk s H scope (compEnvC scope cl C X.env) fp) := ⟨g.rm, g.fns⟩
section
variable {Γ : Gam} {Φ : Phi} {k : Nat} {N : List Str} {sc : Scope} {X : Cx} {l r : Expr} {es : List Expr} {pos px : Pos} {w w1 w2 : WE} {wl : WL} {n : Nat}
theorem plain_any {env : Env} : ∀ {es : List Expr}, es.all plainE = true → (backTo pos (starEach es env)).any (·.1) = false
  | [], _ => rfl
  | e :: es, h => by
    rw [List.all_cons, Bool.and_eq_true] at h
    rw [starEach_plain h.1]
    show (false || (backTo pos (starEach es env)).any (·.1)) = false
    rw [plain_any h.2]
    rfl
theorem ORs.nil_dq {K : PySem.W.Frag} {G H : Hp} {ys : List Tv} {vs : List V} (h : ORs K G H ys vs []) : ys.length = vs.length := h.length
theorem e_call (g : Gd Γ N sc X) (c : GdC Φ k X) {f : Str} (hg : glB sc f = true) (hn : nmB f = true) (ha : PA X (l :: es) (liftL X.K n wl)) (pl : plainE l = true) (ps : es.all plainE = true) :
    PE X (.Call (.Name f px) (l :: es) [] pos) (lift X.K fun ρ Q => ∃ fe, Φ f = some fe ∧ fe.ow = none ∧ wl ρ fun xs ρ1 => ∃ as, argTs xs = some as ∧ fe.fs as fun z _ => Q z ρ1) := by
  refine ⟨fun pins s σ H R I ⟨F, G, ρ, L, Q, st, ⟨fe, hf, ho, hw⟩, kt⟩ => ?_⟩
  obtain ⟨addr, fd, hm, hk, gn, hb, _⟩ := c.fns f fe hf
  refine (pe_gn gn c.rm g.gd (g.glo hg) hm hk hb ha (nm1 hn) (starEach_plain pl) (plain_any ps)).run pins s σ H R I ?_
  refine ⟨F, G, ρ, L, _, st, hw, fun xs vs ρ' G' H' L' M a q _ ⟨as, h1, h2⟩ => ?_⟩
  obtain ⟨b, r⟩ := a.st.frozenA q h1
  exact call_data ho b.st r h2 (Kont.step kt (a.trans b))
theorem starV {i : Nat} {e : Expr} {es : List Expr} {env : Env} (h : okSE N sc (.var i) e = true) : plainE e = true := by
  obtain ⟨x, pos, rfl, _⟩ := okSE_var h
  rfl
theorem e_callO (g : Gd Γ N sc X) (c : GdC Φ k X) {f : Str} (hg : glB sc f = true) (hn : nmB f = true) {i : Nat} (hv : okSE N sc (.var i) l = true) (ha : PA X es (liftL X.K n wl)) (ps : es.all plainE = true) :
    PE X (.Call (.Name f px) (l :: es) [] pos) (lift X.K fun ρ Q => ∃ fe, Φ f = some fe ∧ fe.ow = some 0 ∧ (∃ x, ρ[i]? = some (some x)) ∧ wl ρ fun xs ρ1 => ∃ as ts, argTs xs = some as ∧ ρ1[i]? = some (some (.own ts)) ∧
      fe.fs (.own ts :: as) fun z news => ∃ x', news[0]? = some (some x') ∧ Q z (ρ1.set i (some x'))) := by
  refine ⟨fun pins s σ H R I ⟨F, G, ρ, L, Q, st, ⟨fe, hf, ho, ⟨x0, hx0⟩, hw⟩, kt⟩ => ?_⟩
  obtain ⟨addr, fd, hm, hk, gn, hb, _⟩ := c.fns f fe hf
  rw [ho] at gn
  have pl := starV (es := es) (env := X.env) hv
  obtain ⟨z, p, rfl, h⟩ := okSE_var hv
  refine (pe_gn gn c.rm g.gd (g.glo hg) hm hk hb (pa_cons (e_name g h) ha (starEach_plain pl)) (nm1 hn) (starEach_plain pl) (plain_any ps)).run pins s σ H R I ?_
  obtain ⟨v0, _, _, _, _, ev, _⟩ := st.sr.at hx0
  refine ⟨v0, ev, F, G, ρ, L, _, st, hw, fun xs vs ρ' G' H' L' M a q _ ⟨as, ts, h1, h2, h3⟩ => ?_⟩
  obtain ⟨b, r⟩ := a.st.frozenA q h1
  exact call_own b.st h2 ev r h3 (Kont.step kt (a.trans b))
/-! a call that is lent what a name holds -/
def okSEs (N : List Str) (sc : Scope) : List SE → List Expr → Bool
  | [], xs => xs.isEmpty
  | s :: ss, xs => (match xs with | x :: xs => plainE x && okSE N sc s x && okSEs N sc ss xs | [] => false)
def OLs (K : PySem.W.Frag) (G H : Hp) (L : List Addr) : List Tv → List V → Prop := Paired fun x v => ∃ M, OR K G H x v M ∧ ∀ a ∈ M, a ∈ L
def liftSL (K : PySem.W.Frag) (Γ : Gam) (ss : List SE) : TA := fun σ H R => ∃ F G ρ L xs, Sta K F G H ρ σ L ∧ svs Γ ρ ss = some xs ∧ ∀ vs, OLs K G H L xs vs → R vs H
theorem svs_cons {ρ : Env'} {s : SE} {ss : List SE} {ys : List Tv} (h : svs Γ ρ (s :: ss) = some ys) : ∃ x xs, sv Γ ρ s = some x ∧ svs Γ ρ ss = some xs ∧ ys = x :: xs := by
  rw [svs] at h
  split at h
  · rename_i x xs e1 e2
    exact ⟨x, xs, e1, e2, (Option.some.inj h).symm⟩
  · cases h
theorem a_ses (g : Gd Γ N sc X) : ∀ (ss : List SE) (xs : List Expr), okSEs N sc ss xs = true → PA X xs (liftSL X.K Γ ss)
  | [], xs, h => by
    have h : xs.isEmpty = true := h
    rw [List.isEmpty_iff] at h
    subst h
    exact PA.imp pa_nil fun σ H R ⟨F, G, ρ, L, xs, s, e, k⟩ => by
      cases e
      exact k [] .nil
  | s :: ss, [], h => nomatch (show false = true from h)
  | s :: ss, x :: xs, h => by
    have h : (plainE x && okSE N sc s x && okSEs N sc ss xs) = true := h
    simp only [Bool.and_eq_true] at h
    refine PA.imp (pa_cons (se_ok g s x h.1.2) (a_ses g ss xs h.2) (starEach_plain h.1.1)) fun σ H R ⟨F, G, ρ, L, ys, st, e, k⟩ => ?_
    obtain ⟨y, ys, e1, e2, rfl⟩ := svs_cons e
    exact ⟨F, G, ρ, L, y, st, e1, fun v M r hM => ⟨F, G, ρ, L, ys, st, e2, fun vs hv => k (v :: vs) (.cons ⟨M, r, hM⟩ hv)⟩⟩
theorem ses_plain : ∀ (ss : List SE) (xs : List Expr), okSEs N sc ss xs = true → xs.all plainE = true
  | [], xs, h => by
    have h : xs.isEmpty = true := h
    rw [List.isEmpty_iff] at h
    subst h
    rfl
  | s :: ss, [], h => nomatch (show false = true from h)
  | s :: ss, x :: xs, h => by
    have h : (plainE x && okSE N sc s x && okSEs N sc ss xs) = true := h
    simp only [Bool.and_eq_true] at h
    rw [List.all_cons, h.1.1, ses_plain ss xs h.2]
    rfl
theorem lent_args {K : PySem.W.Frag} {G H : Hp} {L : List Addr} (hL : ∀ a ∈ L, G a = none) : ∀ {xs ys : List Tv} {vs : List V}, OLs K G H L xs vs → argTs xs = some ys → ORs K (freeze G H L) H ys vs []
  | _, _, _, .nil, h => by rw [argTs] at h; cases h; exact .nil
  | _, _, _, .cons ⟨M, o, hM⟩ t, h => by
    obtain ⟨a, as, h1, h2, rfl⟩ := argTs_cons h
    have t' := lent_args hL t h2
    rcases argT_frz h1 with ⟨ns, rfl, rfl⟩ | ⟨d, hd, rfl⟩
    · cases o with
      | scr o => exact ORs.cons (L := []) (.scr ((freeze_grow hL).seq o)) t'
    · exact ORs.cons (L := []) (.d (o.frozen hL hd hM)) t'
theorem scal_any {K : PySem.W.Frag} {G G' H H' : Hp} {z : Tv} {v : V} {M : List Addr} (h : scalT z = true) (o : OR K G H z v M) : OR K G' H' z v [] := by
  cases o with
  | d o => cases o <;> first | exact .d .non | exact .d (.bl _) | exact .d (.int _) | exact .d (.str _) | exact nomatch (show false = true from h)
  | own _ _ _ => exact nomatch (show false = true from h)
  | scr _ => exact nomatch (show false = true from h)
theorem call_lent {K : PySem.W.Frag} {F G H : Hp} {σ : L2.St} {ρ : Env'} {L : List Addr} {Q : Tv → Env' → Prop} {R : VK} {xs ys : List Tv} {vs : List V} {fs : FS} {w : Option Nat} (hw : w = none) (s : Sta K F G H ρ σ L)
    (q : OLs K G H L xs vs) (ha : argTs xs = some ys) (hf : fs ys fun z _ => scalT z = true ∧ Q z ρ) (k : Kont K F G σ Q R) : liftF K w fs vs H R := by
  have hL : ∀ a ∈ L, G a = none := fun a ha => (s.sr.there a ha).2
  have hh := s.held (fun a h => h)
  have args := lent_args hL q ha
  refine ⟨Tr.hold F H L, freeze G H L, ys, [], _, ⟨args.sr, List.nodup_nil, fun _ z => absurd z (by simp), hh.2, freeze_same s.gh⟩, hf, fun z v ns σ' G' H' L' M a qv _ ⟨hz, hq⟩ => ?_⟩
  have same : ∀ b ∈ L, H' b = H b := fun b hb => by
    obtain ⟨⟨o, ho⟩, _⟩ := s.sr.there b hb
    have := a.st.fh b o (by rw [hold_in hb]; exact ho)
    rw [this, ho]
  have grow : Same G (fun b => if b ∈ L then none else G' b) := fun b o e => by
    have nb : b ∉ L := fun hb => by rw [hL b hb] at e; cases e
    show (if b ∈ L then none else G' b) = some o
    rw [if_neg nb]
    exact a.gg b o (by rw [freeze_out nb]; exact e)
  refine k z v ρ (fun b => if b ∈ L then none else G' b) H' L [] ⟨⟨s.sr.step grow same fun b hb => if_pos hb, s.nd, s.fr, hh.1.trans a.st.fh, fun b o e => ?_⟩, grow, fun b h1 h2 => ?_⟩ ⟨scal_any hz qv.r, List.nodup_nil, fun _ z => absurd z (by simp), fun _ z => absurd z (by simp)⟩ hq
  · have e : (if b ∈ L then none else G' b) = some o := e
    by_cases hb : b ∈ L
    · rw [if_pos hb] at e
      cases e
    · rw [if_neg hb] at e
      exact a.st.gh b o e
  · show (if b ∈ L then none else G' b) = none
    by_cases hb : b ∈ L
    · exact if_pos hb
    · rw [if_neg hb]
      exact a.gf b (ne_of_some hh.1 h1) (by rw [freeze_out hb]; exact h2)
theorem e_callL (g : Gd Γ N sc X) (c : GdC Φ k X) {f : Str} {ss : List SE} (hg : glB sc f = true) (hn : nmB f = true) (ha : okSEs N sc ss (l :: es) = true) :
    PE X (.Call (.Name f px) (l :: es) [] pos) (lift X.K fun ρ Q => ∃ fe xs as, Φ f = some fe ∧ fe.ow = none ∧ svs Γ ρ ss = some xs ∧ argTs xs = some as ∧ fe.fs as fun z _ => scalT z = true ∧ Q z ρ) := by
  refine ⟨fun pins s σ H R I ⟨F, G, ρ, L, Q, st, ⟨fe, xs, as, hf, ho, h1, h2, h3⟩, kt⟩ => ?_⟩
  obtain ⟨addr, fd, hm, hk, gn, hb, _⟩ := c.fns f fe hf
  have hp := ses_plain ss _ ha
  rw [List.all_cons, Bool.and_eq_true] at hp
  refine (pe_gn gn c.rm g.gd (g.glo hg) hm hk hb (a_ses g ss _ ha) (nm1 hn) (starEach_plain hp.1) (plain_any hp.2)).run pins s σ H R I ?_
  exact ⟨F, G, ρ, L, xs, st, h1, fun vs hv => call_lent ho st hv h2 h3 kt⟩
/-! keywords -/
theorem lookup_zip {R : α → β → Prop} {as : List α} {bs : List β} (h : Paired R as bs) : ∀ {ks : List Str} {p : Str} {a : α}, (ks.zip as).lookup p = some a → ∃ b, (ks.zip bs).lookup p = some b ∧ R a b := by
  induction h with
  | nil => intro ks p a e; simp at e
  | cons r t ih =>
    intro ks p a e
    cases ks with
    | nil => simp at e
    | cons k ks =>
      rw [List.zip_cons_cons, List.lookup_cons] at e ⊢
      split at e
      · cases e; exact ⟨_, rfl, r⟩
      · exact ih e
theorem kperm_rel {R : α → β → Prop} {as : List α} {bs : List β} {ks : List Str} (h : Paired R as bs) : ∀ {ps : List Str} {cs : List α}, kperm ks as ps = some cs → ∃ ds, kperm ks bs ps = some ds ∧ Paired R cs ds
  | [], cs, e => by cases e; exact ⟨[], rfl, .nil⟩
  | p :: ps, cs, e => by
    rw [kperm] at e
    split at e
    · rename_i a as' e1 e2
      cases e
      obtain ⟨b, h1, h2⟩ := lookup_zip h e1
      obtain ⟨ds, h3, h4⟩ := kperm_rel h e2
      exact ⟨b :: ds, by rw [kperm, h1, h3], .cons h2 h4⟩
    · cases e
theorem ors_fa {K : PySem.W.Frag} {G H : Hp} : ∀ {xs : List Tv} {vs : List V} {M : List Addr}, ORs K G H xs vs M → M = [] → Paired (fun x v => OR K G H x v []) xs vs
  | _, _, _, .nil, _ => .nil
  | _, _, _, .cons (L := L) (M := M) r t, e => by
    obtain ⟨e1, e2⟩ := List.append_eq_nil_iff.mp e
    subst e1
    exact .cons r (ors_fa t e2)
theorem fa_ors {K : PySem.W.Frag} {G H : Hp} : ∀ {xs : List Tv} {vs : List V}, Paired (fun x v => OR K G H x v []) xs vs → ORs K G H xs vs []
  | _, _, .nil => .nil
  | _, _, .cons r t => by simpa using ORs.cons r (fa_ors t)
def kwNames : List Keyword → List Str
  | [] => []
  | ⟨some x, _, _⟩ :: r => x :: kwNames r
  | ⟨none, _, _⟩ :: r => kwNames r
def kwVals : List Keyword → List Expr
  | [] => []
  | ⟨_, e, _⟩ :: r => e :: kwVals r
def kwAll : List Keyword → Bool
  | [] => true
  | ⟨some _, _, _⟩ :: r => kwAll r
  | ⟨none, _, _⟩ :: r => false
theorem kw_all {env : Env} : ∀ {kws : List Keyword}, kwAll kws = true → (backToKw pos (keywordEach kws env)).all (·.1.isSome) = true ∧ (backToKw pos (keywordEach kws env)).filterMap (·.1) = kwNames kws ∧ (backToKw pos (keywordEach kws env)).any (·.1.isNone) = false
  | [], _ => ⟨rfl, rfl, rfl⟩
  | ⟨some x, e, p⟩ :: r, h => by
    obtain ⟨h1, h2, h3⟩ := kw_all (kws := r) (env := env) h
    refine ⟨?_, ?_, ?_⟩
    · show (true && (backToKw pos (keywordEach r env)).all (·.1.isSome)) = true
      rw [h1]; rfl
    · show x :: (backToKw pos (keywordEach r env)).filterMap (·.1) = _
      rw [h2]; rfl
    · show (false || (backToKw pos (keywordEach r env)).any (·.1.isNone)) = false
      rw [h3]; rfl
  | ⟨none, e, p⟩ :: r, h => nomatch (show false = true from h)
theorem k_nil : PK X [] (liftL X.K 0 fun ρ Q => Q [] ρ) := ⟨fun pos pins s σ H R I ⟨F, G, ρ, L, Q, st, hw, k⟩ => pk_nil.run pos pins s σ H R I (k [] [] ρ G H L [] (Aft.refl st) ⟨.nil, List.nodup_nil, fun _ z => absurd z (by simp), fun _ z => absurd z (by simp)⟩ rfl hw)⟩
theorem k_cons {nm : Option Str} {kpos : Pos} {kws : List Keyword} (ha : PE X l (lift X.K w)) (hr : PK X kws (liftL X.K n wl)) : PK X (⟨nm, l, kpos⟩ :: kws) (liftL X.K (n + 1) fun ρ Q => w ρ fun x ρ1 => wl ρ1 fun xs ρ2 => Q (x :: xs) ρ2) := by
  refine ⟨fun pos pins s σ H R I ⟨F, G, ρ, L, Q, st, hw, k⟩ => (pk_cons ha hr).run pos pins s σ H R I ?_⟩
  refine ⟨F, G, ρ, L, _, st, hw, fun x v ρ1 G1 H1 L1 M a q hb => ⟨Tr.hold F H1 M, G1, ρ1, L1, _, a.st.hold q, hb, fun xs vs ρ2 G2 H2 L2 M2 b q2 hn hq => ?_⟩⟩
  obtain ⟨b1, q1⟩ := Aft.held q b
  refine k (x :: xs) (v :: vs) ρ2 G2 H2 L2 (M ++ M2) (a.trans b1) ⟨.cons q1.r q2.r, ?_, fun c hc => ?_, fun c hc => ?_⟩ (by simp [hn]) hq
  · rw [List.nodup_append]
    refine ⟨q1.nd, q2.nd, fun c hc d hd e => ?_⟩
    subst e
    have := q2.fr c hd
    obtain ⟨⟨o, ho⟩, _⟩ := q.r.there c hc
    rw [hold_in hc, ho] at this
    cases this
  · rcases List.mem_append.mp hc with h | h
    · exact q1.fr c h
    · exact (hold_le q.fr).free (q2.fr c h)
  · rcases List.mem_append.mp hc with h | h
    · exact q1.ap c h
    · exact q2.ap c h
theorem e_callK (g : Gd Γ N sc X) (c : GdC Φ k X) {f : Str} {ks : List Str} {kws : List Keyword} (hg : glB sc f = true) (hn : nmB f = true) (hk0 : kwAll kws = true) (hks : kwNames kws = ks) (hlen : ks.length = n) (ha : PK X kws (liftL X.K n wl)) :
    PE X (.Call (.Name f px) [] kws pos) (lift X.K fun ρ Q => ∃ fe, Φ f = some fe ∧ fe.ow = none ∧ ks ∈ fe.kw ∧ wl ρ fun xs ρ1 => ∃ as bs, argTs xs = some as ∧ kperm ks as fe.ps = some bs ∧ fe.fs bs fun z _ => Q z ρ1) := by
  refine ⟨fun pins s σ H R I ⟨F, G, ρ, L, Q, st, ⟨fe, hf, ho, hkw, hw⟩, kt⟩ => ?_⟩
  obtain ⟨addr, fd, hm, hk, gn, hb, hbk⟩ := c.fns f fe hf
  obtain ⟨k1, k2, k3⟩ := kw_all (pos := pos) (kws := kws) (env := X.env) hk0
  refine (pe_gnK gn c.rm g.gd (g.glo hg) hm hk (hbk ks hkw) ha k1 (k2.trans hks) (nm1 hn) (by rw [k3]; rfl)).run pins s σ H R I ?_
  refine ⟨F, G, ρ, L, _, st, hw, fun xs vs ρ' G' H' L' M a q hlx ⟨as, bs, h1, h2, h3⟩ => ?_⟩
  obtain ⟨b, r⟩ := a.st.frozenA q h1
  obtain ⟨vas, e1, e2⟩ := kperm_rel (ors_fa r rfl) h2
  refine ⟨by rw [hlen, ← hlx]; exact q.r.length, vas, e1, fun us ru => ?_, call_data ho b.st (fa_ors e2) h3 (Kont.step kt (a.trans b))⟩
  obtain ⟨uas, e3, e4⟩ := kperm_rel (R := RelV) ru e1
  exact ⟨uas, e3, e4⟩

/-! methods of an own list -/
theorem attrV {i : Nat} {e : Expr} {name : Str} {env : Env} (h : okSE N sc (.var i) e = true) : attributeBase e name env (eval e env) = eval e env := by
  obtain ⟨x, pos, rfl, _⟩ := okSE_var h
  rfl
theorem few1 {env : Env} (pl : plainE r = true) : ((backTo pos (starEach (r :: []) env)).all (fun x => !x.1) && (backToKw pos (keywordEach [] env)).all (fun x => x.1.isSome)
      && decide ((r :: []).length + ([] : List Keyword).length + (if ([] : List Keyword).isEmpty then 0 else 1) < 30)) = true := by
  rw [starEach_plain pl]
  rfl
/-- xs.append(e), as a value -/
theorem m_app {i : Nat} {apos : Pos} (g : Gd Γ N sc X) (hv : okSE N sc (.var i) l = true) (ha : PE X r (lift X.K w)) (pl : plainE r = true) (hline : (apos.endLine == pos.line) = true) :
    PE X (.Call (.Attribute l "append" apos) [r] [] pos) (lift X.K fun ρ Q => (∃ ts, ρ[i]? = some (some (.own ts))) ∧ w ρ fun y ρ1 => ∃ ts, ρ1[i]? = some (some (.own ts)) ∧ ts.length < sizeLine ∧ Q (.d .none) (ρ1.set i (some (.own (ts ++ [y]))))) := by
  have at' := attrV (name := "append") (env := X.env) hv
  obtain ⟨z, p, rfl, h⟩ := okSE_var hv
  refine PE.imp (pe_bm PySem.F.plainAttrs_list PySem.F.slot_list_append PySem.F.type_list_append mt_append (e_name g h) (pa_cons ha pa_nil (starEach_plain pl)) at' (few1 pl) hline (starEach_plain pl)) fun σ H R ⟨F, G, ρ, L, Q, s, ⟨⟨ts, ex⟩, hw⟩, k⟩ => ?_
  obtain ⟨a, vs, M', ev, hA, _⟩ := s.own ex
  refine ⟨.ref a, ev, .inl ⟨rfl, vs, .inl (.inl hA)⟩, F, G, ρ, L, _, s, hw, fun y u ρ1 G1 H1 L1 M b q ⟨ts1, ex1, hz, hq⟩ => ?_⟩
  obtain ⟨a', vs1, M1, ev1, hA1, r1, nd1, sub1, aL, aM, wr⟩ := b.st.own ex1
  rw [ev] at ev1
  cases ev1
  obtain ⟨L2', c, hL⟩ := wr (r1.append q.r) (by
    rw [List.nodup_append]
    exact ⟨nd1, q.nd, fun x hx y hy e => q.ap y hy (e ▸ sub1 x hx)⟩) fun x hx => (List.mem_append.mp hx).imp id fun h => ⟨q.ap x h, q.fr x h⟩
  exact ⟨a, vs1, u, rfl, rfl, hA1, by rw [← r1.length]; exact hz, Kont.data (Kont.step k (b.trans c)) c.st .non hq⟩
theorem m_ext {i : Nat} {apos : Pos} (g : Gd Γ N sc X) (hv : okSE N sc (.var i) l = true) (ha : PE X r (lift X.K w)) (pl : plainE r = true) (hline : (apos.endLine == pos.line) = true) :
    PE X (.Call (.Attribute l "extend" apos) [r] [] pos) (lift X.K fun ρ Q => (∃ ts, ρ[i]? = some (some (.own ts))) ∧ w ρ fun y ρ1 => ∃ ts xs, ρ1[i]? = some (some (.own ts)) ∧ y.frz = some (.list xs) ∧ ts.length + xs.length ≤ sizeLine ∧ Q (.d .none) (ρ1.set i (some (.own (ts ++ xs.map .d))))) := by
  have at' := attrV (name := "extend") (env := X.env) hv
  obtain ⟨z, p, rfl, h⟩ := okSE_var hv
  refine PE.imp (pe_bm PySem.F.plainAttrs_list PySem.F.slot_list_extend PySem.F.type_list_extend mt_extend (e_name g h) (pa_cons ha pa_nil (starEach_plain pl)) at' (few1 pl) hline (starEach_plain pl)) fun σ H R ⟨F, G, ρ, L, Q, s, ⟨⟨ts, ex⟩, hw⟩, k⟩ => ?_
  obtain ⟨a, vs, M', ev, hA, _⟩ := s.own ex
  refine ⟨.ref a, ev, .inl ⟨rfl, vs, .inl (.inl hA)⟩, F, G, ρ, L, _, s, hw, fun y u ρ1 G1 H1 L1 M b q ⟨ts1, xs, ex1, hy, hz, hq⟩ => ?_⟩
  obtain ⟨b2, dq⟩ := b.st.frozen q hy
  obtain ⟨p2, us, rfl, g2, d2⟩ := dq.lst_of
  obtain ⟨a', vs1, M1, ev1, hA1, r1, nd1, sub1, aL, aM, wr⟩ := b2.st.own ex1
  rw [ev] at ev1
  cases ev1
  obtain ⟨L2', c, hL⟩ := wr (r1.cat (ors_data d2)) (by rw [List.append_nil]; exact nd1) fun x hx => .inl (by simpa using hx)
  exact ⟨a, p2, vs1, us, rfl, rfl, hA1, b2.st.gh _ _ g2, by rw [← r1.length, d2.length]; exact hz, Kont.data (Kont.step k ((b.trans b2).trans c)) c.st .non hq⟩
theorem m_pop {i : Nat} {apos : Pos} (g : Gd Γ N sc X) (hv : okSE N sc (.var i) l = true) (ha : PE X r (lift X.K w)) (pl : plainE r = true) (hline : (apos.endLine == pos.line) = true) :
    PE X (.Call (.Attribute l "pop" apos) [r] [] pos) (lift X.K fun ρ Q => (∃ ts, ρ[i]? = some (some (.own ts))) ∧ w ρ fun y ρ1 => ∃ ts k x, y = .d (.int k) ∧ ρ1[i]? = some (some (.own ts)) ∧ 0 ≤ k ∧ k < 2 ^ 63 ∧ ts[k.toNat]? = some x ∧ Q x (ρ1.set i (some (.own (ts.eraseIdx k.toNat))))) := by
  have at' := attrV (name := "pop") (env := X.env) hv
  obtain ⟨z, p, rfl, h⟩ := okSE_var hv
  refine ⟨fun pins s σ H R I ⟨F, G, ρ, L, Q, st, ⟨⟨ts, ex⟩, hw⟩, k⟩ => ?_⟩
  refine (pe_bm PySem.F.plainAttrs_list PySem.F.slot_list_pop PySem.F.type_list_pop mt_popAt (e_name g h) (pa_cons ha pa_nil (starEach_plain pl)) at' (few1 pl) hline (starEach_plain pl)).run pins s σ H R I ?_
  obtain ⟨a, vs, M', ev, hA, _⟩ := st.own ex
  refine ⟨.ref a, ev, .inl ⟨rfl, vs, .inl (.inl hA)⟩, F, G, ρ, L, _, st, hw, fun y u ρ1 G1 H1 L1 M b q ⟨ts1, n, x, ey, ex1, h0, hn, hx, hq⟩ => ?_⟩
  subst ey
  have eu := q.r.dq.1.int_of
  subst eu
  obtain ⟨a', vs1, M1, ev1, hA1, r1, nd1, sub1, aL, aM, wr⟩ := b.st.own ex1
  rw [ev] at ev1
  cases ev1
  obtain ⟨v, P, M2, S, e1, e2, rx, re⟩ := r1.erase hx
  rw [e1] at nd1
  obtain ⟨n1, n2, n3⟩ := nodup_mid nd1
  have in1 : ∀ c ∈ P ++ S, c ∈ M1 := fun c hc => by rw [e1]; exact mem_mid.mpr (.inl hc)
  have in2 : ∀ c ∈ M2, c ∈ M1 := fun c hc => by rw [e1]; exact mem_mid.mpr (.inr hc)
  obtain ⟨L2', c, hL⟩ := wr re n1 fun c hc => .inl (in1 c hc)
  have hlt : n.toNat < vs1.length := (List.getElem?_eq_some_iff.mp e2).1
  have idx : seqIndex? n vs1.length = some n.toNat := by
    unfold seqIndex?
    simp only [show ¬ n < 0 by omega, if_false]
    simp
    omega
  refine ⟨a, vs1, n, n.toNat, v, rfl, rfl, hA1, by omega, hn, idx, e2, ?_⟩
  have bc := b.trans c
  -- the value that comes out
  refine k x v _ G1 (upd H1 a (.lst (vs1.eraseIdx n.toNat))) L2' M2 bc ⟨rx.step (Same.refl _) (fun d hd => upd_ne fun z => aM (in2 a (z ▸ hd))) fun d hd => (rx.there d hd).2, n2, fun d hd => b.st.fr d (sub1 d (in2 d hd)), fun d hd hl => ?_⟩ hq
  rcases hL d hl with ⟨q1, q2⟩ | q1
  · exact n3 d hd (q2 (in2 d hd))
  · exact n3 d hd q1
def notCall : Expr → Bool
  | .Call .. => false
  | _ => true
theorem attrN {e : Expr} {name : Str} {env : Env} (h : notCall e = true) : attributeBase e name env (eval e env) = eval e env := by
  cases e <;> first | rfl | exact nomatch (show false = true from h)
theorem ints_dqs {G : Hp} : ∀ {vs : List V} {ns : List Int}, DqAll G vs (ns.map PyData.int) → vs = ns.map V.int
  | _, [], .nil => rfl
  | _, n :: ns, .cons h t => by
    rw [h.int_of, ints_dqs t]
    rfl
theorem e_index {a b : Expr} {apos cpos : Pos} {w1 w2 : WE} (h : notCall a = true) (ha : PE X a (lift X.K w1)) (hb : PE X b (lift X.K w2)) (pl : plainE b = true) (hl : (apos.endLine == cpos.line) = true) :
    PB X (.Call (.Attribute a "index" apos) [b] [] cpos) (fun ρ Q => w1 ρ fun x ρ1 => ∃ ns : List Int, x = .d (.tuple (ns.map .int)) ∧ w2 ρ1 fun y ρ2 => ∃ k : Int, y = .d (.int k) ∧ k ∈ ns ∧ Q (.d (.int (ns.idxOf k : Nat))) ρ2) := by
  refine .val (PE.imp (pf_met PySem.F.slot_tuple_index PySem.F.type_tuple_index mf_index ha (pa_cons hb pa_nil (starEach_plain pl)) (attrN h) (few1 pl) hl (starEach_plain pl)) fun σ H R ⟨F, G, ρ, L, Q, s, hw, k⟩ => ?_)
  refine ⟨F, G, ρ, L, _, s, hw, fun x v ρ1 G1 H1 L1 M a q ⟨ns, e, hB⟩ => ?_⟩
  subst e
  obtain ⟨p, vs, rfl, g1, d1⟩ := q.r.dq.1.tup_of
  have e1 := ints_dqs d1
  subst e1
  refine ⟨⟨p, _, rfl, g1.grow a.st.gh⟩, F, G1, ρ1, L1, _, a.st, hB, fun y u ρ2 G2 H2 L2 M2 b q2 ⟨z, e, hz, hq⟩ => ?_⟩
  subst e
  exact ⟨p, ns, z, rfl, by rw [q2.r.dq.1.int_of], (g1.grow fun c o h => b.st.gh _ _ (b.gg _ _ h)).sq, hz, (Kont.step k (a.trans b)).data b.st (.int _) hq⟩
end
end Tr
set_option Elab.async false
set_option linter.all false
set_option maxRecDepth 100000
set_option maxHeartbeats 2000000
/-! The tree layer, part 15: statements. -/
namespace Tr
open PySem PySem.Spec PyProof.Rows L2
def kept (kp : Option Nat) (σ σ' : L2.St) : Prop := ∀ i, kp = some i → σ'[i]? = σ[i]?
theorem kept.refl {kp : Option Nat} {σ : L2.St} : kept kp σ σ := fun _ _ => rfl
theorem kept.trans {kp : Option Nat} {σ σ' σ'' : L2.St} (h : kept kp σ σ') (h' : kept kp σ' σ'') : kept kp σ σ'' := fun i e => (h' i e).trans (h i e)
theorem kept.set {kp : Option Nat} {σ : L2.St} {i : Nat} {o : Option V} (h : kp ≠ some i) : kept kp σ (σ.set i o) := fun j e => List.getElem?_set_ne fun z => h (e.trans (congrArg some z.symm))
structure KS (K : PySem.W.Frag) (kp : Option Nat) (F G : Hp) (σ : L2.St) (D' : DE) (D : Ends) : Prop where
  nx : ∀ ρ' σ' G' H' L', Aft K F G G' H' ρ' σ' L' → kept kp σ σ' → D'.nx ρ' → D.nx σ' H'
  bk : ∀ ρ' σ' G' H' L', Aft K F G G' H' ρ' σ' L' → kept kp σ σ' → D'.bk ρ' → D.bk σ' H'
  ct : ∀ ρ' σ' G' H' L', Aft K F G G' H' ρ' σ' L' → kept kp σ σ' → D'.ct ρ' → D.ct σ' H'
  rt : ∀ x v ρ' σ' G' H' L' M, Aft K F G G' H' ρ' σ' L' → kept kp σ σ' → Val K F G' H' L' x v M → D'.rt x ρ' → D.rt v H'
def liftW (K : PySem.W.Frag) (kp : Option Nat) (w : WS) : TS := fun D σ H => ∃ F G ρ L D', Sta K F G H ρ σ L ∧ w D' ρ ∧ KS K kp F G σ D' D
section
variable {K : PySem.W.Frag} {kp : Option Nat} {F G G' H H' : Hp} {σ σ' : L2.St} {ρ ρ' : Env'} {L L' : List Addr} {D' : DE} {D : Ends}
theorem Aft.trans' {G1 G2 H1 H2 : Hp} {ρ1 ρ2 : Env'} {σ2 : L2.St} {L1 L2 : List Addr} (a : Aft K F G G1 H1 ρ1 σ L1) (b : Aft K F G1 G2 H2 ρ2 σ2 L2) : Aft K F G G2 H2 ρ2 σ2 L2 :=
  ⟨b.st, a.gg.trans b.gg, fun x h1 h2 => b.gf x h1 (a.gf x h1 h2)⟩
theorem KS.step (k : KS K kp F G σ D' D) (a : Aft K F G G' H' ρ' σ' L') (hk : kept kp σ σ') : KS K kp F G' σ' D' D where
  nx := fun ρ2 σ2 G2 H2 L2 b h q => k.nx ρ2 σ2 G2 H2 L2 (Aft.trans' a b) (hk.trans h) q
  bk := fun ρ2 σ2 G2 H2 L2 b h q => k.bk ρ2 σ2 G2 H2 L2 (Aft.trans' a b) (hk.trans h) q
  ct := fun ρ2 σ2 G2 H2 L2 b h q => k.ct ρ2 σ2 G2 H2 L2 (Aft.trans' a b) (hk.trans h) q
  rt := fun x v ρ2 σ2 G2 H2 L2 M b h q r => k.rt x v ρ2 σ2 G2 H2 L2 M (Aft.trans' a b) (hk.trans h) q r
theorem Sta.aft {ρ' : Env'} {σ' : L2.St} (s : Sta K F G H ρ' σ' L) : Aft K F G G H ρ' σ' L := ⟨s, Same.refl _, fun _ _ h => h⟩
/-- names forgotten -/
theorem Sta.forget (s : Sta K F G H ρ σ L) : ∀ er : List Nat, ∃ L', Sta K F G H (wipeR ρ er) σ L'
  | [] => ⟨L, s⟩
  | v :: er => by
    obtain ⟨L1, s1⟩ := Sta.forget s er
    obtain ⟨L2', s2, _⟩ := s1.drop v (σ[v]?).join
    refine ⟨L2', ?_⟩
    have : σ.set v (σ[v]?).join = σ := by
      cases e : σ[v]? with
      | none => exact set_out (by have := List.getElem?_eq_none_iff.mp e; omega) _
      | some o =>
        refine set_same ?_
        rw [e]
        rfl
    rw [this] at s2
    exact s2
end
/-- a statement's reading over trees -/
abbrev PSt (kp : Option Nat) (X : Cx) (st : Stmt) (w : WS) : Prop := PS X st (liftW X.K kp w)
abbrev PSts (kp : Option Nat) (X : Cx) (st : List Stmt) (w : WS) : Prop := PSs X st (liftW X.K kp w)
section
variable {Γ : Gam} {N : List Str} {sc : Scope} {X : Cx} {T : Str → Bool} {kp : Option Nat} {l r tg e : Expr} {es : List Expr} {pos px : Pos} {w w1 w2 : WE} {wl : WL} {n : Nat}
def notComp : Expr → Bool
  | .ListComp .. => false
  | .SetComp .. => false
  | .DictComp .. => false
  | _ => true
theorem sw_not {t : Option Expr} {line : Nat} {env : Env} (h : notComp e = true) : swapsWith e t line env = pure false := by
  cases e <;> first | rfl | exact nomatch (show false = true from h)
theorem tAsg_set {i : Nat} {D : Ends} {σ : L2.St} {H : Hp} {K : PySem.W.Frag} (hk : kp ≠ some i) (h : liftW K kp (fun D ρ => w ρ fun x ρ1 => i < ρ1.length ∧ D.nx (ρ1.set i (some x))) D σ H) : tAsg (lift K w) (gName i) D σ H := by
  obtain ⟨F, G, ρ, L, D', s, hw, k⟩ := h
  refine ⟨F, G, ρ, L, _, s, hw, fun x v ρ1 G1 H1 L1 M a q ⟨hi, hq⟩ => ?_⟩
  obtain ⟨L2', s2, _⟩ := a.st.put hi q
  exact k.nx _ _ G1 H1 L2' (Aft.trans' a s2.aft) (kept.set hk) hq
theorem s_set (g : Gd Γ N sc X) (t : GdT T X) {i : Nat} {x : Str} {p : Pos} (hi : N[i]? = some x) (hT : T x = true) (hk : kp ≠ some i) (he : PE X e (lift X.K w)) (hs : swapsWith e (some (.Name x p)) pos.line X.env = pure false) :
    PSt kp X (.Assign [.Name x p] e pos) (fun D ρ => w ρ fun x ρ1 => i < ρ1.length ∧ D.nx (ρ1.set i (some x))) :=
  PS.imp (ps_set (by rw [g.nm]; exact g.nd) (by rw [g.nm]; exact hi) (t.loc x hT) he hs (t.fn x hT)) fun D σ H q => tAsg_set hk q
def notTup : Expr → Bool
  | .Tuple .. => false
  | _ => true
theorem st_not {tgs : List Expr} {env : Env} (h : notTup e = true) : swappedStores tgs e env = pure none := by
  have z : ∀ (a b : List Expr) (f : List Expr × List Expr → Sem (Option (List Str))), True := fun _ _ _ => trivial
  unfold swappedStores
  cases e <;> first | exact nomatch (show false = true from h) | (cases tgs with
    | nil => rfl
    | cons a b => cases b with
      | nil => cases a <;> rfl
      | cons c d => cases a <;> rfl)
theorem sole_tup {ts : List Expr} {k : Nat} {p : Pos} {line : Nat} {env : Env} : swapsWithSole [.Tuple ts k p] e line env = pure false := by
  cases e <;> rfl
theorem s_unp (g : Gd Γ N sc X) (t : GdT T X) {tt : TgL} {ts : List Expr} {k : Nat} {p : Pos} (ht : okTg N T (.tup tt) (.Tuple ts k p) = true) (hk : ∀ i, kp = some i → i ∉ tgVs (.tup tt)) (he : PE X e (lift X.K w)) (hn : notTup e = true) :
    PSt kp X (.Assign [.Tuple ts k p] e pos) (fun D ρ => w ρ fun x ρ1 => ∃ d, x.frz = some d ∧ wTg (.tup tt) d ρ1 D.nx) := by
  refine PS.imp (ps_asg he (g_tg g.calm g.nm g.nd t (.tup tt) _ ht) sole_tup (st_not hn) rfl) fun D σ H ⟨F, G, ρ, L, D', s, hw, k⟩ => ?_
  refine ⟨F, G, ρ, L, _, s, hw, fun x v ρ1 G1 H1 L1 M a q ⟨d, hd, hq⟩ => ?_⟩
  obtain ⟨b, dq⟩ := a.st.frozen q hd
  refine ⟨F, _, ρ1, L1, d, _, b.st, dq, hq, fun ρ2 σ2 L2 s2 _ ag hn => ?_⟩
  exact k.nx _ _ _ H1 L2 (Aft.trans' (a.trans b) s2.aft) (fun i hi => ag.2 i (hk i hi)) hn

/-! a, b, .. = x, y, .. -/
theorem kept_foldl (kp : Option Nat) : ∀ (is : List Nat) (vs : List V) (σ : L2.St), (∀ i, kp = some i → i ∉ is) → kept kp σ ((is.zip vs).foldl (fun r p => r.set p.1 (some p.2)) σ)
  | [], _, _, _ => kept.refl
  | i :: is, [], _, _ => kept.refl
  | i :: is, v :: vs, σ, h => by
    show kept kp σ ((is.zip vs).foldl _ (σ.set i (some v)))
    exact (kept.set fun e => h i e (by simp)).trans (kept_foldl kp is vs _ fun j e hj => h j e (by simp [hj]))
/-- several values put in places -/
theorem Sta.puts {K : PySem.W.Frag} {F G H : Hp} : ∀ (is : List Nat) {xs : List Tv} {vs : List V} {σ : L2.St} {ρ : Env'} {L M : List Addr}, Sta K F G H ρ σ L → ValL K F G H L xs vs M → (∀ i ∈ is, i < ρ.length) → xs.length = is.length →
    ∃ L', Sta K F G H ((is.zip xs).foldl (fun r p => r.set p.1 (some p.2)) ρ) ((is.zip vs).foldl (fun r p => r.set p.1 (some p.2)) σ) L'
  | [], xs, vs, σ, ρ, L, M, s, _, _, _ => ⟨L, s⟩
  | i :: is, xs, vs, σ, ρ, L, M, s, ⟨r, nd, fr, ap⟩, hi, hl => by
    cases r with
    | nil => simp at hl
    | cons o t =>
      rename_i x v xs vs M1 M2
      have nd' := List.nodup_append.mp nd
      obtain ⟨L', s', sub⟩ := s.put (hi i (by simp)) ⟨o, nd'.1, fun a ha => fr a (by simp [ha]), fun a ha => ap a (by simp [ha])⟩
      exact Sta.puts is s' ⟨t, nd'.2.1, fun a ha => fr a (by simp [ha]), fun a ha hl => by
        rcases sub a hl with h | h
        · exact ap a (by simp [ha]) h
        · exact nd'.2.2 a h a ha rfl⟩ (fun j hj => by simpa using hi j (by simp [hj])) (by simpa using hl)
def wPar (is : List Nat) (wl : WL) : WS := fun D ρ => wl ρ fun xs ρ1 => xs.length = is.length ∧ is.Nodup ∧ (∀ i ∈ is, i < ρ1.length) ∧ D.nx ((is.zip xs).foldl (fun r p => r.set p.1 (some p.2)) ρ1)
theorem par_main {K : PySem.W.Frag} {is : List Nat} (hk : ∀ i, kp = some i → i ∉ is) {D : Ends} {σ : L2.St} {H : Hp} (h : liftW K kp (wPar is wl) D σ H) :
    liftL K n wl σ H fun vs H1 => vs.length = is.length ∧ is.Nodup ∧ D.nx ((is.zip vs).foldl (fun r p => r.set p.1 (some p.2)) σ) H1 ∧ ∀ p o, H1 p = none → D.nx ((is.zip vs).foldl (fun r p => r.set p.1 (some p.2)) σ) (upd H1 p o) := by
  obtain ⟨F, G, ρ, L, D', s, hw, k⟩ := h
  refine ⟨F, G, ρ, L, _, s, hw, fun xs vs ρ1 G1 H1 L1 M a q hn ⟨hl, nd, hi, hq⟩ => ⟨by rw [← q.r.length, hl], nd, ?_, fun p o hp => ?_⟩⟩
  · obtain ⟨L2', s2⟩ := Sta.puts is a.st q hi hl
    exact k.nx _ _ G1 H1 L2' (Aft.trans' a s2.aft) (kept_foldl kp is vs σ hk) hq
  · obtain ⟨L2', s2⟩ := Sta.puts is a.st q hi hl
    have b := s2.made (o := o) hp
    exact k.nx _ _ G1 _ L2' (Aft.trans' (Aft.trans' a s2.aft) b) (kept_foldl kp is vs σ hk) hq
def okNames (N : List Str) (T : Str → Bool) : List Nat → List Expr → Bool
  | [], es => es.isEmpty
  | i :: is, es => (match es with | .Name x _ :: es => decide (N[i]? = some x) && T x && okNames N T is es | _ => false)
theorem g_names (g : Gd Γ N sc X) (t : GdT T X) : ∀ (is : List Nat) (ts : List Expr), okNames N T is ts = true → (assignEach ts X.env).length = is.length ∧ (assignEach ts X.env).findIdx? (·.1) = none ∧ is.length = ts.length ∧
    PGs X ts (fun vs σ H Q => vs.length = is.length ∧ Q ((is.zip vs).foldl (fun r p => r.set p.1 (some p.2)) σ) H)
  | [], ts, h => by
    have h : ts.isEmpty = true := h
    rw [List.isEmpty_iff] at h
    subst h
    exact ⟨rfl, rfl, rfl, ⟨fun pins s σ H vs us Q I r ⟨e, q⟩ => pgs_nil.run pins s σ H vs us Q I r ⟨List.eq_nil_of_length_eq_zero e, q⟩⟩⟩
  | i :: is, ts, h => by
    match ts, h with
    | .Name x p :: ts, h =>
      have h : (decide (N[i]? = some x) && T x && okNames N T is ts) = true := h
      simp only [Bool.and_eq_true, decide_eq_true_eq] at h
      obtain ⟨h1, h2, h3, h4⟩ := g_names g t is ts h.2
      refine ⟨by show (assignEach ts X.env).length + 1 = _; rw [h1]; rfl, ?_, by simp [h3], ?_⟩
      · show ((false, assign (.Name x p) X.env) :: assignEach ts X.env).findIdx? (·.1) = none
        rw [List.findIdx?_cons]
        simp [h2]
      · have pg : PG X (.Name x p) (gName i) := pg_name (by rw [g.nm]; exact g.nd) (by rw [g.nm]; exact h.1.1) (t.loc x h.1.2) (t.fn x h.1.2)
        refine ⟨fun pins s σ H vs us Q I r ⟨e, q⟩ => (pgs_cons pg h4 rfl).run pins s σ H vs us Q I r ?_⟩
        match vs, e, q with
        | v :: vs, e, q => exact ⟨v, vs, rfl, by simpa using e, q⟩
/-- by way of a tuple -/
theorem s_par (g : Gd Γ N sc X) (t : GdT T X) {is : List Nat} {ts : List Expr} {k k2 : Nat} {p p2 : Pos} (ht : okNames N T is ts = true) (hk : ∀ i, kp = some i → i ∉ is) (ha : PA X es (liftL X.K n wl)) (hn : n ≤ 1000) (hl : is.length = n)
    (hw : swappedStores [.Tuple ts k p] (.Tuple es k2 p2) X.env = pure none) : PSt kp X (.Assign [.Tuple ts k p] (.Tuple es k2 p2) pos) (wPar is wl) := by
  obtain ⟨h1, h2, h3, h4⟩ := g_names g t is ts ht
  refine PS.imp (ps_asg (pe_tup ha) (pg_tup g.calm h4 h1 h2) sole_tup hw rfl) fun D σ H q => ?_
  obtain ⟨F, G, ρ, L, Q, s, hw, k⟩ := par_main (n := n) hk q
  refine ⟨F, G, ρ, L, Q, s, hw, fun xs vs ρ1 G1 H1 L1 M a q hn hq => ?_⟩
  obtain ⟨e1, e2, e3, e4⟩ := k xs vs ρ1 G1 H1 L1 M a q hn hq
  exact ⟨by rw [e1, hl]; exact small_n (by omega), fun pp hp => ⟨pp, vs, rfl, SqT.of upd_same, e1, e1, e4 pp _ hp⟩⟩
theorem names2 {is : List Nat} {ts : List Expr} (h : okNames N T is ts = true) (hl : ts.length = 2) : ∃ i j x y px py, is = [i, j] ∧ ts = [.Name x px, .Name y py] ∧ N[i]? = some x ∧ N[j]? = some y := by
  match is, ts, h, hl with
  | [], ts, h, hl => exact absurd hl (by rw [List.isEmpty_iff.mp (show ts.isEmpty = true from h)]; simp)
  | i :: is, .Name x px :: ts, h, hl =>
    have h : (decide (N[i]? = some x) && T x && okNames N T is ts) = true := h
    simp only [Bool.and_eq_true, decide_eq_true_eq] at h
    match is, ts, h, hl with
    | [], ts, h, hl => exact absurd hl (by rw [List.isEmpty_iff.mp (show ts.isEmpty = true from h.2)]; simp)
    | j :: is, .Name y py :: ts, h, hl =>
      have h2 : (decide (N[j]? = some y) && T y && okNames N T is ts) = true := h.2
      simp only [Bool.and_eq_true, decide_eq_true_eq] at h2
      have e : ts = [] := List.eq_nil_of_length_eq_zero (by simpa using hl)
      subst e
      cases is with
      | nil => exact ⟨i, j, x, y, px, py, rfl, rfl, h.1.1, h2.1.1⟩
      | cons a b => exact nomatch (show false = true from h2.2)
theorem names3 {is : List Nat} {ts : List Expr} (h : okNames N T is ts = true) (hl : ts.length = 3) : ∃ i j k x y z px py pz, is = [i, j, k] ∧ ts = [.Name x px, .Name y py, .Name z pz] ∧ N[i]? = some x ∧ N[j]? = some y ∧ N[k]? = some z := by
  match is, ts, h, hl with
  | [], ts, h, hl => exact absurd hl (by rw [List.isEmpty_iff.mp (show ts.isEmpty = true from h)]; simp)
  | i :: is, .Name x px :: ts, h, hl =>
    have h : (decide (N[i]? = some x) && T x && okNames N T is ts) = true := h
    simp only [Bool.and_eq_true, decide_eq_true_eq] at h
    obtain ⟨j, k, y, z, py, pz, rfl, rfl, h2, h3⟩ := names2 h.2 (by simpa using hl)
    exact ⟨i, j, k, x, y, z, px, py, pz, rfl, rfl, h.1.1, h2, h3⟩
theorem nodup_ne {N : List Str} (nd : N.Nodup) {i j : Nat} {x y : Str} (h : x ≠ y) (hi : N[i]? = some x) (hj : N[j]? = some y) : i ≠ j := fun e => h (by subst e; rw [hi] at hj; exact Option.some.inj hj)
def nameOf : Expr → Option Str
  | .Name x _ => some x
  | _ => none
/-- stored from the right, two -/
theorem s_par2 (g : Gd Γ N sc X) {is : List Nat} {ts : List Expr} {k k2 : Nat} {p p2 : Pos} (ht : okNames N T is ts = true) (hk : ∀ i, kp = some i → i ∉ is) (ha : PA X es (liftL X.K n wl)) (hes : es.length = ts.length) {xs : List Str}
    (hx : ∀ x ∈ xs, sc.names.lookup x = some .local) (nx : xs.Nodup) (hxs : ts.filterMap nameOf = xs) (hlen : ts.length = 2 ∨ ts.length = 3)
    (hw : swappedStores [.Tuple ts k p] (.Tuple es k2 p2) X.env = pure (some xs)) : PSt kp X (.Assign [.Tuple ts k p] (.Tuple es k2 p2) pos) (wPar is wl) := by
  rcases hlen with hl | hl
  · obtain ⟨i, j, x, y, px, py, rfl, rfl, hi, hj⟩ := names2 ht hl
    have e : [x, y] = xs := hxs
    subst e
    match es, hes with
    | [a, b], _ =>
      have hxy : x ≠ y := by simpa using nx
      refine PS.imp (ps_par g.calm (by rw [g.nm]; exact g.nd) (by rw [g.nm]; exact hi) (by rw [g.nm]; exact hj) (nodup_ne g.nd hxy hi hj) (by rw [g.sc]; exact hx x (by simp)) (by rw [g.sc]; exact hx y (by simp)) ha hw sole_tup) fun D σ H q => ?_
      obtain ⟨F, G, ρ, L, Q, s, hw, k⟩ := par_main (n := n) hk q
      refine ⟨F, G, ρ, L, Q, s, hw, fun xs vs ρ1 G1 H1 L1 M a q hn hq => ?_⟩
      obtain ⟨e1, e2, e3, e4⟩ := k xs vs ρ1 G1 H1 L1 M a q hn hq
      match vs, e1, e3 with
      | [v, u], _, e3 => exact ⟨v, u, rfl, e3⟩
  · obtain ⟨i, j, l, x, y, z, px, py, pz, rfl, rfl, hi, hj, hl'⟩ := names3 ht hl
    have e : [x, y, z] = xs := hxs
    subst e
    match es, hes with
    | [a, b, c], _ =>
      have hne : (x ≠ y ∧ x ≠ z) ∧ y ≠ z := by simpa using nx
      refine PS.imp (ps_par3 g.calm (by rw [g.nm]; exact g.nd) (by rw [g.nm]; exact hi) (by rw [g.nm]; exact hj) (by rw [g.nm]; exact hl') (nodup_ne g.nd hne.1.1 hi hj) (nodup_ne g.nd hne.1.2 hi hl') (nodup_ne g.nd hne.2 hj hl') (by rw [g.sc]; exact hx x (by simp)) (by rw [g.sc]; exact hx y (by simp)) (by rw [g.sc]; exact hx z (by simp)) ha hw sole_tup) fun D σ H q => ?_
      obtain ⟨F, G, ρ, L, Q, s, hw, k⟩ := par_main (n := n) hk q
      refine ⟨F, G, ρ, L, Q, s, hw, fun xs vs ρ1 G1 H1 L1 M a q hn hq => ?_⟩
      obtain ⟨e1, e2, e3, e4⟩ := k xs vs ρ1 G1 H1 L1 M a q hn hq
      match vs, e1, e3 with
      | [v, u, w], _, e3 => exact ⟨v, u, w, rfl, e3⟩
/-- what the machine does with a, b = x, y; none: it is not told -/
def swN (sc : Scope) (ts vs : List Expr) : Option (Option (List Str)) :=
  if (!(ts.length == 2 || ts.length == 3) || vs.length != ts.length) = true then some none
  else if (vs.any fun | .Starred .. => true | _ => false) = true then some none
  else
    let line := (ts.head?.map (·.pos.line)).getD 0
    let names := ts.filterMap fun
      | .Name id pos => if (sc.names.lookup id == some .local && pos.line == line) = true then some id else none
      | _ => none
    if (names.length != ts.length || names.eraseDups.length != names.length) = true then some none
    else if vs.all (foldedForSure 8) = true then some none
    else if vs.all (constantsAlone 8) = true then none
    else some (some names)
theorem itp {α : Type} {c : Prop} [Decidable c] {a b z : α} (h : c) (e : a = z) : (if c then a else b) = z := by rw [if_pos h]; exact e
theorem itn {α : Type} {c : Prop} [Decidable c] {a b z : α} (h : ¬ c) (e : b = z) : (if c then a else b) = z := by rw [if_neg h]; exact e
theorem sw_eq {sc : Scope} {env : Env} {ts vs : List Expr} {k k2 : Nat} {p p2 : Pos} {o : Option (List Str)} (hs : env.scope = sc) (hk : sc.kind = .function) (h : swN sc ts vs = some o) : swappedStores [.Tuple ts k p] (.Tuple vs k2 p2) env = pure o := by
  have hb : env.blockKind = .function := by unfold Env.blockKind; rw [hs, hk]; rfl
  have hkd : ∀ id, env.kindOf id = sc.names.lookup id := fun id => by rw [← hs]; rfl
  unfold swappedStores
  simp only [hb, hkd]
  unfold swN at h
  have hne : ((ScopeKind.function != ScopeKind.function) = false) := by decide
  rw [hne, Bool.or_false]
  split at h
  · rename_i c1
    cases h
    exact itp c1 rfl
  · rename_i c1
    refine itn c1 ?_
    split at h
    · rename_i c2
      cases h
      exact itp c2 rfl
    · rename_i c2
      refine itn c2 ?_
      dsimp only at h
      split at h
      · rename_i c3
        cases h
        exact itp c3 rfl
      · rename_i c3
        refine itn c3 ?_
        split at h
        · rename_i c4
          cases h
          exact itp c4 rfl
        · rename_i c4
          refine itn c4 ?_
          split at h
          · cases h
          · rename_i c5
            cases h
            exact itn c5 rfl

/-! items of a name's own list -/
theorem sub_assign {o i : Expr} {env : Env} (pl : plainE i = true) : ∀ v, assign (.Subscript o i pos) env v = (do
      let ov ← holding [v] (eval o env)
      let iv ← holding [v, ov] (eval i env)
      standAt pos
      holding [v, ov, iv] (setItem ov iv v)
      release [v, ov, iv] []) := by
  intro v
  cases i <;> first | rfl | exact nomatch (show false = true from pl)
theorem sole_sub {o i : Expr} {p : Pos} {line : Nat} {env : Env} : swapsWithSole [.Subscript o i p] e line env = pure false := by
  cases e <;> rfl
theorem st_sub {o i : Expr} {p : Pos} {env : Env} : swappedStores [.Subscript o i p] e env = pure none := by
  unfold swappedStores
  cases e <;> rfl
theorem ors_set {K : PySem.W.Frag} {F G H : Hp} {L M M2 : List Addr} {ts : List Tv} {vs : List V} {j : Nat} {y : Tv} {u : V} (r : ORs K G H ts vs M) (nd : M.Nodup) (hj : j < ts.length) (q : Val K F G H L y u M2) (sub : ∀ b ∈ M, b ∈ L) :
    ∃ M'', ORs K G H (ts.set j y) (vs.set j u) M'' ∧ M''.Nodup ∧ ∀ b ∈ M'', b ∈ M ∨ (b ∉ L ∧ F b = none) := by
  obtain ⟨v, P, M1, S, e1, e2, r1, put⟩ := r.at (List.getElem?_eq_getElem hj)
  rw [e1] at nd
  obtain ⟨n1, n2, n3⟩ := nodup_mid nd
  refine ⟨_, put (H' := H) (fun _ _ => rfl) q.r, mid_nodup n1 q.nd fun a ha hp => q.ap a ha (sub a (by rw [e1]; exact mem_mid.mpr (.inl hp))), fun b hb => ?_⟩
  rcases mem_mid.mp hb with h | h
  · exact .inl (by rw [e1]; exact mem_mid.mpr (.inl h))
  · exact .inr ⟨q.ap b h, q.fr b h⟩
theorem s_ix1 (g : Gd Γ N sc X) {i : Nat} {k : SE} {a b : Expr} {p : Pos} (ha : okSE N sc (.var i) a = true) (hb : okSE N sc k b = true) (pb : plainE b = true) (he : PE X e (lift X.K w)) :
    PSt kp X (.Assign [.Subscript a b p] e pos) (fun D ρ => w ρ fun y ρ1 => ∃ ts n j, ρ1[i]? = some (some (.own ts)) ∧ sv Γ ρ1 k = some (.d (.int n)) ∧ ixN ts.length n = some j ∧ D.nx (ρ1.set i (some (.own (ts.set j y))))) := by
  have hbb := se_ok g k b hb
  obtain ⟨z, pz, rfl, h⟩ := okSE_var ha
  refine PS.imp (ps_asg he (pg_sub (e_name g h) hbb set_list (sub_assign pb)) sole_sub st_sub rfl) fun D σ H ⟨F, G, ρ, L, D', s, hw, kt⟩ => ?_
  refine ⟨F, G, ρ, L, _, s, hw, fun y u ρ1 G1 H1 L1 M a q ⟨ts, n, j, ex, hk, hj, hq⟩ => ?_⟩
  obtain ⟨ad, vs, M', ev, hA, r, nd, sub, aL, aM, wr⟩ := a.st.own ex
  have hjl : j < ts.length := (ixN_seq hj).2.1
  obtain ⟨M'', r', nd', hM⟩ := ors_set r nd hjl q sub
  obtain ⟨L2', c, _⟩ := wr r' nd' hM
  refine ⟨.ref ad, ev, F, G1, ρ1, L1, _, a.st, hk, fun v M3 r3 _ => ⟨ad, vs, n, j, rfl, r3.dq.1.int_of, hA, by rw [← r.length]; exact hj, ?_⟩⟩
  exact kt.nx _ _ G1 _ L2' (Aft.trans' a c) kept.refl hq
theorem s_ix2 (g : Gd Γ N sc X) {i : Nat} {k1 k : SE} {a b0 b : Expr} {p p0 : Pos} (ha : okSE N sc (.var i) a = true) (hb0 : okSE N sc k1 b0 = true) (pb0 : plainE b0 = true) (hb : okSE N sc k b = true) (pb : plainE b = true) (he : PE X e (lift X.K w)) :
    PSt kp X (.Assign [.Subscript (.Subscript a b0 p0) b p] e pos) (fun D ρ => w ρ fun y ρ1 => ∃ ts n1 j1 us n j, ρ1[i]? = some (some (.own ts)) ∧ sv Γ ρ1 k1 = some (.d (.int n1)) ∧ ixN ts.length n1 = some j1 ∧ ts[j1]? = some (.own us) ∧
      sv Γ ρ1 k = some (.d (.int n)) ∧ ixN us.length n = some j ∧ D.nx (ρ1.set i (some (.own (ts.set j1 (.own (us.set j y))))))) := by
  have hbb := se_ok g k b hb
  have hb1 := se_ok g k1 b0 hb0
  obtain ⟨z, pz, rfl, h⟩ := okSE_var ha
  refine PS.imp (ps_asg he (pg_sub (pe_ix ix_list (e_name g h) hb1 (ix_plain pb0)) hbb set_list (sub_assign pb)) sole_sub st_sub rfl) fun D σ H ⟨F, G, ρ, L, D', s, hw, kt⟩ => ?_
  refine ⟨F, G, ρ, L, _, s, hw, fun y u ρ1 G1 H1 L1 M a q ⟨ts, n1, j1, us, n, j, ex, hk1, hj1, hu, hk, hj, hq⟩ => ?_⟩
  obtain ⟨ad, vs, b, ws, N', ev, hA, hlv, hvb, hB, r, nd, subN, wr⟩ := a.st.own2 ex hu
  refine ⟨.ref ad, ev, F, G1, ρ1, L1, _, a.st, hk1, fun v M3 r3 _ => ⟨ad, vs, n1, .ref b, rfl, r3.dq.1.int_of, SqL.of hA, ?_, ?_⟩⟩
  · unfold atI
    rw [hlv, hj1]
    exact hvb
  · obtain ⟨M'', r', nd', hM⟩ := ors_set r nd (ixN_seq hj).2.1 q subN
    obtain ⟨L2', c⟩ := wr r' nd' hM
    refine ⟨F, G1, ρ1, L1, _, a.st, hk, fun v M3 r3 _ => ⟨b, ws, n, j, rfl, r3.dq.1.int_of, hB, by rw [← r.length]; exact hj, ?_⟩⟩
    exact kt.nx _ _ G1 _ L2' (Aft.trans' a c) kept.refl hq
def wIxp (Γ : Gam) (i : Nat) (k1 k2 : SE) (wl : WL) : WS := fun D ρ => wl ρ fun xs ρ1 => ∃ y1 y2 ts n1 j1 n2 j2, xs = [.d y1, .d y2] ∧ ρ1[i]? = some (some (.own ts)) ∧ sv Γ ρ1 k1 = some (.d (.int n1)) ∧ ixN ts.length n1 = some j1 ∧
  sv Γ (ρ1.set i (some (.own (ts.set j1 (.d y1))))) k2 = some (.d (.int n2)) ∧ ixN ts.length n2 = some j2 ∧ D.nx (ρ1.set i (some (.own ((ts.set j1 (.d y1)).set j2 (.d y2)))))
theorem vals_two {K : PySem.W.Frag} {G H : Hp} {y1 y2 : PyData} {vs : List V} {M : List Addr} (r : ORs K G H [.d y1, .d y2] vs M) : ∃ v1 v2, vs = [v1, v2] ∧ Dq G v1 y1 ∧ Dq G v2 y2 := by
  cases r with
  | cons h1 t =>
    cases t with
    | cons h2 t =>
      cases t
      exact ⟨_, _, rfl, h1.dq.1, h2.dq.1⟩
/-- two items of one list stored, the first one first -/
theorem s_ixp (g : Gd Γ N sc X) {i k3 k4 : Nat} {k1 k2 : SE} {a1 b1 a2 b2 : Expr} {p1 p2 p3 p4 : Pos} (ha1 : okSE N sc (.var i) a1 = true) (hb1 : okSE N sc k1 b1 = true) (pb1 : plainE b1 = true)
    (ha2 : okSE N sc (.var i) a2 = true) (hb2 : okSE N sc k2 b2 = true) (pb2 : plainE b2 = true) (he : PA X es (liftL X.K n wl)) (hn : n ≤ 1000)
    (hw : swappedStores [.Tuple [.Subscript a1 b1 p1, .Subscript a2 b2 p2] k3 p3] (.Tuple es k4 p4) X.env = pure none) :
    PSt kp X (.Assign [.Tuple [.Subscript a1 b1 p1, .Subscript a2 b2 p2] k3 p3] (.Tuple es k4 p4) pos) (wIxp Γ i k1 k2 wl) := by
  have se1 := se_ok g k1 b1 hb1
  have se2 := se_ok g k2 b2 hb2
  obtain ⟨z1, pz1, rfl, h1⟩ := okSE_var ha1
  obtain ⟨z2, pz2, rfl, h2⟩ := okSE_var ha2
  refine PS.imp (ps_asg (pe_tup he) (pg_tup g.calm (pgs_cons (pg_sub (e_name g h1) se1 set_list (sub_assign pb1)) (pgs_cons (pg_sub (e_name g h2) se2 set_list (sub_assign pb2)) pgs_nil rfl) rfl) rfl rfl) sole_tup hw rfl) fun D σ H ⟨F, G, ρ, L, D', s, hw, kt⟩ => ?_
  refine ⟨F, G, ρ, L, _, s, hw, fun xs vs ρ1 G1 H1 L1 M a q hl ⟨y1, y2, ts, n1, j1, n2, j2, e0, ex, hk1, hj1, hk2, hj2, hq⟩ => ?_⟩
  subst e0
  obtain ⟨v1, v2, rfl, d1, d2⟩ := vals_two q.r
  refine ⟨small_n (n := 2) (by decide), fun pp hp => ⟨pp, [v1, v2], rfl, SqT.of upd_same, rfl, v1, [v2], rfl, ?_⟩⟩
  have b := a.st.made (o := .tup [v1, v2]) hp
  obtain ⟨ad, us, M', ev, hA, r, nd, sub, aL, aM, wr⟩ := b.st.own ex
  obtain ⟨M'', r', nd', hM⟩ := ors_set (y := .d y1) (u := v1) r nd (ixN_seq hj1).2.1 (Val.pure d1) sub
  obtain ⟨L2', c, _⟩ := wr r' nd' hM
  refine ⟨.ref ad, ev, F, G1, ρ1, L1, _, b.st, hk1, fun u M3 r3 _ => ⟨ad, us, n1, j1, rfl, r3.dq.1.int_of, hA, by rw [← r.length]; exact hj1, v2, [], rfl, ?_⟩⟩
  have hlt : i < ρ1.length := (List.getElem?_eq_some_iff.mp ex).1
  have ex2 : (ρ1.set i (some (.own (ts.set j1 (.d y1)))))[i]? = some (some (.own (ts.set j1 (.d y1)))) := by
    rw [List.getElem?_set]
    simp [hlt]
  obtain ⟨ad2, us2, N', ev2, hA2, r2, nd2, sub2, aL2, aM2, wr2⟩ := c.st.own ex2
  have hj3 : j2 < (ts.set j1 (Tv.d y1)).length := by
    rw [List.length_set]
    exact (ixN_seq hj2).2.1
  obtain ⟨N'', r2', nd2', hN⟩ := ors_set (y := .d y2) (u := v2) r2 nd2 hj3 (Val.pure (d2.grow c.gg)) sub2
  obtain ⟨L3', c2, _⟩ := wr2 r2' nd2' hN
  have hlen : us2.length = ts.length := by
    rw [← r2.length, List.length_set]
  refine ⟨.ref ad2, ev2, F, _, _, _, _, c.st, hk2, fun u M4 r4 _ => ⟨ad2, us2, n2, j2, rfl, r4.dq.1.int_of, hA2, by rw [hlen]; exact hj2, rfl, ?_⟩⟩
  exact kt.nx _ _ _ _ L3' (Aft.trans' (Aft.trans' (Aft.trans' a b) c) c2) kept.refl (by rw [List.set_set] at *; exact hq)
/-- an item stored at a place that is reckoned -/
theorem s_ixe (g : Gd Γ N sc X) {i : Nat} {a b : Expr} {p : Pos} (ha : okSE N sc (.var i) a = true) (hb : PE X b (lift X.K w1)) (pb : plainE b = true) (he : PE X e (lift X.K w)) :
    PSt kp X (.Assign [.Subscript a b p] e pos) (fun D ρ => w ρ fun y ρ1 => ∃ d, y = .d d ∧ (∃ ts, ρ1[i]? = some (some (.own ts))) ∧ w1 ρ1 fun z ρ2 => ∃ n ts j, z = .d (.int n) ∧ ρ2[i]? = some (some (.own ts)) ∧ ixN ts.length n = some j ∧ D.nx (ρ2.set i (some (.own (ts.set j (.d d)))))) := by
  obtain ⟨z, pz, rfl, h⟩ := okSE_var ha
  refine PS.imp (ps_asg he (pg_sub (e_name g h) hb set_list (sub_assign pb)) sole_sub st_sub rfl) fun D σ H ⟨F, G, ρ, L, D', s, hw, kt⟩ => ?_
  refine ⟨F, G, ρ, L, _, s, hw, fun y u ρ1 G1 H1 L1 M a q ⟨d, e0, ⟨ts0, ex0⟩, hw1⟩ => ?_⟩
  subst e0
  obtain ⟨ad0, vs0, M0, ev0, _⟩ := a.st.own ex0
  refine ⟨.ref ad0, ev0, F, G1, ρ1, L1, _, a.st, hw1, fun z v ρ2 G2 H2 L2 M2 b q2 ⟨n, ts, j, e1, ex, hj, hq⟩ => ?_⟩
  subst e1
  obtain ⟨ad, vs, M', ev, hA, r, nd, sub, aL, aM, wr⟩ := b.st.own ex
  rw [ev0] at ev
  cases ev
  have hjl : j < ts.length := (ixN_seq hj).2.1
  obtain ⟨M'', r', nd', hM⟩ := ors_set (y := .d d) (u := u) r nd hjl (Val.pure (q.r.dq.1.grow b.gg)) sub
  obtain ⟨L2', c, _⟩ := wr r' nd' hM
  refine ⟨ad0, vs, n, j, rfl, q2.r.dq.1.int_of, hA, by rw [← r.length]; exact hj, ?_⟩
  exact kt.nx _ _ _ _ L2' (Aft.trans' (Aft.trans' a b) c) kept.refl hq
end
end Tr
set_option Elab.async false
set_option linter.all false
set_option maxRecDepth 100000
set_option maxHeartbeats 2000000
/-! The tree layer, part 16: statements that steer. -/
namespace Tr
open PySem PySem.Spec PyProof.Rows L2
section
variable {Γ : Gam} {N : List Str} {sc : Scope} {X : Cx} {T : Str → Bool} {kp : Option Nat} {l r tg e it : Expr} {es : List Expr} {body els : List Stmt} {pos px : Pos} {w w1 w2 : WE} {wl : WL} {wi : WI} {wb wb2 : WS} {n : Nat}
theorem s_expr (he : PE X e (lift X.K w)) (hn : notComp e = true) : PSt kp X (.Expr e pos) (fun D ρ => w ρ fun _ ρ1 => D.nx ρ1) :=
  PS.imp (ps_expr he (sw_not hn)) fun D σ H ⟨F, G, ρ, L, D', s, hw, k⟩ => ⟨F, G, ρ, L, _, s, hw, fun x v ρ1 G1 H1 L1 M a q hq => k.nx _ _ G1 H1 L1 a kept.refl hq⟩
theorem s_ret (he : PE X e (lift X.K w)) : PSt kp X (.Return (some e) pos) (fun D ρ => w ρ fun x ρ1 => D.rt x ρ1) :=
  PS.imp (ps_ret he) fun D σ H ⟨F, G, ρ, L, D', s, hw, k⟩ => ⟨F, G, ρ, L, _, s, hw, fun x v ρ1 G1 H1 L1 M a q hq => k.rt x v _ _ G1 H1 L1 M a kept.refl q hq⟩
theorem s_retN : PSt kp X (.Return none pos) (fun D ρ => D.rt (.d .none) ρ) :=
  PS.imp ps_retN fun D σ H ⟨F, G, ρ, L, D', s, hw, k⟩ => k.rt _ _ _ _ G H L [] s.aft kept.refl (Val.pure .non) hw
theorem s_retv (g : Gd Γ N sc X) {i : Nat} (hk : kp ≠ some i) (ha : okSE N sc (.var i) e = true) : PSt kp X (.Return (some e) pos) (fun D ρ => ∃ x, ρ[i]? = some (some x) ∧ D.rt x (ρ.set i none)) := by
  obtain ⟨z, pz, rfl, h⟩ := okSE_var ha
  refine PS.imp (ps_ret (e_name g h)) fun D σ H ⟨F, G, ρ, L, D', s, ⟨x, ex, hq⟩, k⟩ => ?_
  obtain ⟨v, P, M, S, e1, e2, r, _, drop⟩ := s.sr.at ex
  have nd := s.nd
  rw [e1] at nd
  obtain ⟨n1, n2, n3⟩ := nodup_mid nd
  have sub : ∀ b ∈ P ++ S, b ∈ L := fun b hb => by rw [e1]; exact mem_mid.mpr (.inl hb)
  have sM : ∀ b ∈ M, b ∈ L := fun b hb => by rw [e1]; exact mem_mid.mpr (.inr hb)
  refine ⟨v, e2, ?_⟩
  have sr' := drop (G' := G) (H' := H) (Same.refl _) (fun _ _ => rfl) (fun b hb => (s.sr.there b (sub b hb)).2) (some v)
  rw [set_same e2] at sr'
  have s' : Sta X.K F G H (ρ.set i none) σ (P ++ S) := ⟨sr', n1, fun b hb => s.fr b (sub b hb), s.fh, s.gh⟩
  exact k.rt x v _ _ G H (P ++ S) M s'.aft kept.refl ⟨r, n2, fun b hb => s.fr b (sM b hb), n3⟩ hq
theorem s_pass : PSt kp X (.Pass pos) (fun D ρ => D.nx ρ) := PS.imp ps_pass fun D σ H ⟨F, G, ρ, L, D', s, hw, k⟩ => k.nx _ _ G H L s.aft kept.refl hw
theorem s_brk : PSt kp X (.Break pos) (fun D ρ => D.bk ρ) := PS.imp ps_break fun D σ H ⟨F, G, ρ, L, D', s, hw, k⟩ => k.bk _ _ G H L s.aft kept.refl hw
theorem s_cont : PSt kp X (.Continue pos) (fun D ρ => D.ct ρ) := PS.imp ps_continue fun D σ H ⟨F, G, ρ, L, D', s, hw, k⟩ => k.ct _ _ G H L s.aft kept.refl hw
theorem s_never {st : Stmt} : PSt kp X st (fun _ _ => False) := PS.imp ps_never fun D σ H ⟨F, G, ρ, L, D', s, hw, k⟩ => hw
theorem s_if (hc : PT X e (liftT X.K w)) (ha : PSts kp X body wb) (hb : PSts kp X els wb2) : PSt kp X (.If e body els pos) (fun D ρ => w ρ fun x ρ1 => ∃ k, x = .d (.bool k) ∧ (k = true → wb D ρ1) ∧ (k = false → wb2 D ρ1)) := by
  refine PS.imp (ps_if hc ha hb) fun D σ H ⟨F, G, ρ, L, D', s, hw, k⟩ => ⟨F, G, ρ, L, _, s, hw, fun x v ρ1 G1 H1 L1 M a q ⟨b, ex, h1, h2⟩ => ?_⟩
  subst ex
  refine ⟨b, q.r.dq.1.bl_of, ?_⟩
  cases b with
  | true => exact ⟨F, G1, ρ1, L1, D', a.st, h1 rfl, k.step a kept.refl⟩
  | false => exact ⟨F, G1, ρ1, L1, D', a.st, h2 rfl, k.step a kept.refl⟩
theorem ss_nil : PSts kp X [] (fun D ρ => D.nx ρ) := PSs.imp pss_nil fun D σ H ⟨F, G, ρ, L, D', s, hw, k⟩ => k.nx _ _ G H L s.aft kept.refl hw
theorem ss_cons {st : Stmt} (ha : PSt kp X st wb) (hb : PSts kp X body wb2) : PSts kp X (st :: body) (fun D ρ => wb { D with nx := fun ρ1 => wb2 D ρ1 } ρ) := by
  refine PSs.imp (pss_cons ha hb) fun D σ H ⟨F, G, ρ, L, D', s, hw, k⟩ => ⟨F, G, ρ, L, _, s, hw, ⟨fun ρ1 σ1 G1 H1 L1 a hk hq => ⟨F, G1, ρ1, L1, D', a.st, hq, k.step a hk⟩, k.bk, k.ct, k.rt⟩⟩
/-- what the machine asks of loops -/
def GdP (X : Cx) : Prop := PassesOwn (model X.prog X.w) X.A X.env X.xe
theorem s_for (g : Gd Γ N sc X) (t : GdT T X) (po : GdP X) {tt : Tg} (er : List Nat) (hi : PI X tg it (liftI X.K wi)) (ht : okTg N T tt tg = true) (hk : ∀ i, kp = some i → i ∉ tgVs tt) (hb : PSts kp X body wb) (pl : plainE it = true) :
    PSt kp X (.For tg it body [] pos) (fun D ρ => wi ρ fun items ρ1 => ∃ I : Nat → Env' → Prop, I 0 ρ1 ∧
      (∀ k x ρ2, items[k]? = some x → I k ρ2 → wTg tt x ρ2 fun ρ3 => wb { nx := fun ρ4 => I (k + 1) (wipeR ρ4 er), ct := fun ρ4 => I (k + 1) (wipeR ρ4 er), bk := fun ρ4 => D.nx (wipeR ρ4 er), rt := D.rt } ρ3) ∧
      ∀ ρ2, I items.length ρ2 → D.nx ρ2) := by
  refine PS.imp (ps_for po g.calm hi (g_tg g.calm g.nm g.nd t tt tg ht) hb (folded_plain pl)) fun D σ H ⟨F, G, ρ, L, D', s, hw, k⟩ => ⟨F, G, ρ, L, _, s, hw, fun items ρ1 G1 H1 L1 J a wk ⟨I, h0, hs, hd⟩ => ?_⟩
  have k1 := k.step a kept.refl
  refine ⟨fun i m σ2 H2 => m = items.length - i ∧ i ≤ items.length ∧ ∃ ρ2 G2 L2, Aft X.K F G1 G2 H2 ρ2 σ2 L2 ∧ kept kp σ σ2 ∧ I i ρ2, ⟨items.length, by simp, Nat.zero_le _, ρ1, G1, L1, a.st.aft, kept.refl, h0⟩, ?_⟩
  rintro i m σ2 H2 ⟨rfl, hi, ρ2, G2, L2, b, hkp, hI⟩
  by_cases hlt : i < items.length
  · refine .inr ⟨wk.goes i H2 hlt (b.gg.trans b.st.gh), fun σ' H' => ∃ ρ3 G3 L3, Aft X.K F G1 G3 H' ρ3 σ' L3 ∧ kept kp σ σ' ∧ I (i + 1) ρ3, fun σ' H' p' => ⟨items.length - (i + 1), by omega, rfl, hlt, p'⟩, fun x H3 y => ?_⟩
    obtain ⟨d, G3, ed, c, dq⟩ := Wk.come (wk.grow b.gg) b.st hlt y
    refine ⟨F, G3, ρ2, L2, d, _, c.st, dq, hs i d ρ2 ed hI, fun ρ3 σ3 L3 s3 h3 ag hw3 => ?_⟩
    have kg : kept kp σ σ3 := hkp.trans fun j e => ag.2 j (hk j e)
    have b3 : Aft X.K F G1 G3 H3 ρ3 σ3 L3 := Aft.trans' (Aft.trans' b c) s3.aft
    refine ⟨F, G3, ρ3, L3, _, s3, hw3, ⟨fun ρ4 σ4 G4 H4 L4 d4 h4 q4 => ?_, fun ρ4 σ4 G4 H4 L4 d4 h4 q4 => ?_, fun ρ4 σ4 G4 H4 L4 d4 h4 q4 => ?_, fun x v ρ4 σ4 G4 H4 L4 M d4 h4 q r4 => ?_⟩⟩
    · obtain ⟨L5, s5⟩ := d4.st.forget er
      exact ⟨_, G4, L5, Aft.trans' (Aft.trans' b3 d4) s5.aft, kg.trans h4, q4⟩
    · obtain ⟨L5, s5⟩ := d4.st.forget er
      exact k1.nx _ _ G4 H4 L5 (Aft.trans' (Aft.trans' b3 d4) s5.aft) (kg.trans h4) q4
    · obtain ⟨L5, s5⟩ := d4.st.forget er
      exact ⟨_, G4, L5, Aft.trans' (Aft.trans' b3 d4) s5.aft, kg.trans h4, q4⟩
    · exact k1.rt x v _ _ G4 H4 L4 M (Aft.trans' b3 d4) (kg.trans h4) q r4
  · have e : i = items.length := by omega
    subst e
    exact .inl ⟨wk.stops H2 (b.gg.trans b.st.gh), k1.nx _ _ G2 H2 L2 b hkp (hd ρ2 hI)⟩
theorem s_while (po : GdP X) (er : List Nat) (hc : PT X e (liftT X.K w)) (hb : PSts kp X body wb) :
    PSt kp X (.While e body [] pos) (fun D ρ => ∃ (I : Env' → Prop) (μ : Env' → Nat), I ρ ∧ ∀ ρ1, I ρ1 → w ρ1 fun x ρ2 => ∃ k, x = .d (.bool k) ∧
      (k = true → wb { nx := fun ρ4 => I (wipeR ρ4 er) ∧ μ (wipeR ρ4 er) < μ ρ1, ct := fun ρ4 => I (wipeR ρ4 er) ∧ μ (wipeR ρ4 er) < μ ρ1, bk := fun ρ4 => D.nx (wipeR ρ4 er), rt := D.rt } ρ2) ∧ (k = false → D.nx ρ2)) := by
  refine PS.imp (ps_while po hc hb) fun D σ H ⟨F, G, ρ, L, D', s, ⟨I, μ, h0, hs⟩, k⟩ => ?_
  refine ⟨fun m σ2 H2 => ∃ ρ2 G2 L2, m = μ ρ2 ∧ Aft X.K F G G2 H2 ρ2 σ2 L2 ∧ kept kp σ σ2 ∧ I ρ2, ⟨μ ρ, ρ, G, L, rfl, s.aft, kept.refl, h0⟩, ?_⟩
  rintro m σ2 H2 ⟨ρ2, G2, L2, rfl, b, hkp, hI⟩
  refine ⟨F, G2, ρ2, L2, _, b.st, hs ρ2 hI, fun x v ρ3 G3 H3 L3 M c q ⟨kk, ex, h1, h2⟩ => ?_⟩
  subst ex
  have bc := Aft.trans' b c
  refine ⟨kk, q.r.dq.1.bl_of, ?_⟩
  cases kk with
  | false => exact k.nx _ _ G3 H3 L3 bc hkp (h2 rfl)
  | true =>
    refine ⟨fun σ' H' => ∃ ρ4 G4 L4, μ ρ4 < μ ρ2 ∧ Aft X.K F G G4 H' ρ4 σ' L4 ∧ kept kp σ σ' ∧ I ρ4, fun σ' H' ⟨ρ4, G4, L4, hm, a4, k4, i4⟩ => ⟨μ ρ4, hm, ρ4, G4, L4, rfl, a4, k4, i4⟩, ?_⟩
    refine ⟨F, G3, ρ3, L3, _, c.st, h1 rfl, ⟨fun ρ4 σ4 G4 H4 L4 d4 h4 q4 => ?_, fun ρ4 σ4 G4 H4 L4 d4 h4 q4 => ?_, fun ρ4 σ4 G4 H4 L4 d4 h4 q4 => ?_, fun x v ρ4 σ4 G4 H4 L4 M d4 h4 q r4 => ?_⟩⟩
    · obtain ⟨L5, s5⟩ := d4.st.forget er
      exact ⟨_, G4, L5, q4.2, Aft.trans' (Aft.trans' bc d4) s5.aft, hkp.trans h4, q4.1⟩
    · obtain ⟨L5, s5⟩ := d4.st.forget er
      exact k.nx _ _ G4 H4 L5 (Aft.trans' (Aft.trans' bc d4) s5.aft) (hkp.trans h4) q4
    · obtain ⟨L5, s5⟩ := d4.st.forget er
      exact ⟨_, G4, L5, q4.2, Aft.trans' (Aft.trans' bc d4) s5.aft, hkp.trans h4, q4.1⟩
    · exact k.rt x v _ _ G4 H4 L4 M (Aft.trans' bc d4) (hkp.trans h4) q r4
end
end Tr
set_option Elab.async false
set_option linter.all false
set_option maxRecDepth 100000
set_option maxHeartbeats 4000000
/-! The tree layer, part 17: a text is one of the small language's expressions; all expressions are sound. -/
namespace Tr
open PySem PySem.Spec PyProof.Rows L2
def operB : Operator → BO → Bool
  | .Add, .add => true | .Sub, .sub => true | .Mult, .mul => true | .FloorDiv, .fdiv => true | .Mod, .mod => true | .Pow, .pow => true
  | _, _ => false
theorem operB_eq {o : Operator} {b : BO} (h : operB o b = true) : o = oper b := by cases o <;> cases b <;> first | rfl | exact nomatch (show false = true from h)
def copB : CmpOp → CO → Bool
  | .Eq, .eq => true | .NotEq, .ne => true | .Lt, .lt => true | .LtE, .le => true | .Gt, .gt => true | .GtE, .ge => true | .In, .inn => true | .NotIn, .nin => true
  | _, _ => false
theorem copB_eq {o : CmpOp} {b : CO} (h : copB o b = true) : o = copOf b := by cases o <;> cases b <;> first | rfl | exact nomatch (show false = true from h)
def ownOf (N : List Str) (vs : List Nat) : List (Str × Nat) := vs.map fun i => ((N[i]?).getD "", i)
theorem ownOf_snd (N : List Str) (vs : List Nat) : (ownOf N vs).map (·.2) = vs := by
  unfold ownOf
  rw [List.map_map]
  exact List.map_id' vs
def Bn.two : Bn → Bool
  | .max2 | .min2 => true
  | _ => false
mutual
def okE (N : List Str) : Scope → E → Expr → Bool
  | sc, .sim s, x => okSE N sc s x
  | sc, .bin o a b, x => (match x with | .BinOp l op r _ => operB op o && okE N sc a l && okE N sc b r | _ => false)
  | sc, .neg a, x => (match x with | .UnaryOp .USub l _ => okE N sc a l | _ => false)
  | sc, .cmp o a b, x => (match x with | .Compare l [op] [r] _ => copB op o && plainE r && okE N sc a l && okE N sc b r | _ => false)
  | sc, .isN a, x => (match x with | .Compare l [.Is] [.Constant .none _ _] _ => okE N sc a l | _ => false)
  | sc, .notN a, x => (match x with | .Compare l [.IsNot] [.Constant .none _ _] _ => okE N sc a l | _ => false)
  | sc, .chain o o' a b c, x => (match x with | .Compare l [op, op'] [r, d] _ => copB op o && copB op' o' && plainE d && okE N sc a l && okE N sc b r && okE N sc c d | _ => false)
  | sc, .and_ es, x => (match x with | .BoolOp .And (l :: ls) _ => okEL N sc es (l :: ls) | _ => false)
  | sc, .or_ es, x => (match x with | .BoolOp .Or (l :: ls) _ => okEL N sc es (l :: ls) | _ => false)
  | sc, .not_ a, x => (match x with | .UnaryOp .Not l _ => okE N sc a l | _ => false)
  | sc, .ite c a b, x => (match x with | .IfExp d l r _ => okE N sc c d && okE N sc a l && okE N sc b r | _ => false)
  | sc, .tup es, x => (match x with | .Tuple ls _ _ => decide (ls.length ≤ 1000) && okEL N sc es ls | _ => false)
  | sc, .lst es, x => (match x with | .List ls _ => decide (ls.length ≤ 1000) && okEL N sc es ls | _ => false)
  | sc, .idx a b, x => (match x with | .Subscript l r _ => plainE r && okE N sc a l && okE N sc b r | _ => false)
  | sc, .slice a lo hi, x => (match x with | .Subscript l (.Slice u v none _) _ => okE N sc a l && okOE N sc lo u && okOE N sc hi v | _ => false)
  | sc, .rev a, x => (match x with | .Subscript l (.Slice none none (some (.UnaryOp .USub (.Constant (.int 1) _ _) _)) _) _ => okE N sc a l | _ => false)
  | sc, .callL f ss, x => (match x with | .Call (.Name y _) (l :: ls) [] _ => decide (y = f) && glB sc y && nmB y && okSEs N sc ss (l :: ls) | _ => false)
  | sc, .call f es, x => (match x with | .Call (.Name y _) (l :: ls) [] _ => decide (y = f) && glB sc y && nmB y && okEL N sc es (l :: ls) | _ => false)
  | sc, .callK f ks es, x => (match x with | .Call (.Name y _) [] kws _ => decide (y = f) && glB sc y && nmB y && kwAll kws && decide (kwNames kws = ks) && okEL N sc es (kwVals kws) | _ => false)
  | sc, .blt1 b e, x => (match x with | .Call (.Name y _) [l] [] _ => decide (y = b.nm) && glB sc y && !b.two && plainE l && okE N sc e l | _ => false)
  | sc, .bltv b e, x => (match x with | .Call (.Name y _) [l] [] _ => decide (y = b.nm) && glB sc y && b.scal && plainE l && okE N sc e l | _ => false)
  | sc, .blt2 b e e2, x => (match x with | .Call (.Name y _) [l, r] [] _ => decide (y = b.nm) && glB sc y && b.two && plainE l && plainE r && okE N sc e l && okE N sc e2 r | _ => false)
  | sc, .sortset a, x => (match x with | .Call (.Name y _) [.Call (.Name z _) [l] [] _] [] _ => decide (y = "sorted") && decide (z = "set") && glB sc y && glB sc z && plainE l && okE N sc a l | _ => false)
  | sc, .lrng t .non b, x => (match x with | .Call (.Name y _) [.Call (.Name z _) [l] [] _] [] _ => decide (y = if t then ("tuple" : Str) else ("list" : Str)) && decide (z = "range") && glB sc y && glB sc z && plainE l && okE N sc b l | _ => false)
  | sc, .lrng t (.som a) b, x => (match x with | .Call (.Name y _) [.Call (.Name z _) [l, r] [] _] [] _ => decide (y = if t then ("tuple" : Str) else ("list" : Str)) && decide (z = "range") && glB sc y && glB sc z && plainE l && plainE r && okE N sc a l && okE N sc b r | _ => false)
  | sc, .lc elt tg it c vs, x => (match x with | .ListComp e [⟨tx, iter, ifs, 0⟩] scope _ => blkC N sc scope (ownOf N vs) && okTg N (locB scope) tg tx && (tgVs tg).all (fun i => vs.contains i) && plainE iter && okIt N sc it tx iter && okC N (relS scope sc) c ifs && okE N (relS scope sc) elt e | _ => false)
  | sc, .pop i a, x => (match x with | .Call (.Attribute l name ap) [r] [] p => decide (name = "pop") && okSE N sc (.var i) l && plainE r && (ap.endLine == p.line) && okE N sc a r | _ => false)
  | sc, .index a b, x => (match x with | .Call (.Attribute l name ap) [r] [] p => decide (name = "index") && notCall l && plainE r && (ap.endLine == p.line) && okE N sc a l && okE N sc b r | _ => false)
def okEL (N : List Str) : Scope → EL → List Expr → Bool
  | _, .nil, xs => xs.isEmpty
  | sc, .cons e es, xs => (match xs with | x :: xs => plainE x && okE N sc e x && okEL N sc es xs | [] => false)
def okOE (N : List Str) : Scope → OE → Option Expr → Bool
  | _, .non, x => x.isNone
  | sc, .som e, x => (match x with | some x => okE N sc e x | none => false)
def okC (N : List Str) : Scope → OE → List Expr → Bool
  | _, .non, xs => xs.isEmpty
  | sc, .som e, xs => (match xs with | [x] => okE N sc e x | _ => false)
def okIt (N : List Str) : Scope → It → Expr → Expr → Bool
  | sc, .seq a, _, x => okE N sc a x
  | sc, .rng .non b, _, x => (match x with | .Call (.Name z _) [l] [] _ => decide (z = "range") && glB sc z && plainE l && okE N sc b l | _ => false)
  | sc, .rng (.som a) b, _, x => (match x with | .Call (.Name z _) [l, r] [] _ => decide (z = "range") && glB sc z && plainE l && plainE r && okE N sc a l && okE N sc b r | _ => false)
  | sc, .enum a, tg, x => (match tg, x with | .Tuple .., .Call (.Name z _) [l] [] _ => decide (z = "enumerate") && glB sc z && plainE l && okE N sc a l | _, _ => false)
  | sc, .zip a b, tg, x => (match tg, x with | .Tuple .., .Call (.Name z _) [l, r] [] _ => decide (z = "zip") && glB sc z && plainE l && plainE r && okE N sc a l && okE N sc b r | _, _ => false)
end
theorem kw_len : ∀ {kws : List Keyword}, kwAll kws = true → (kwNames kws).length = kws.length
  | [], _ => rfl
  | ⟨some x, e, p⟩ :: r, h => by
    show (kwNames r).length + 1 = r.length + 1
    rw [kw_len (kws := r) h]
  | ⟨none, e, p⟩ :: r, h => nomatch (show false = true from h)
theorem PE.or {X : Cx} {e : Expr} {t t' : TE} (h : PE X e t) (h' : PE X e t') : PE X e (fun σ H R => t σ H R ∨ t' σ H R) := ⟨fun pins s σ H R I q => q.elim (h.run pins s σ H R I) (h'.run pins s σ H R I)⟩
theorem sim_eq {a : E} {s : SE} (h : a.sim? = some s) : a = .sim s := by
  cases a <;> first | (cases h; rfl) | cases h
theorem var_eq {a : E} {i : Nat} (h : a.var? = some i) : a = .sim (.var i) := by
  unfold E.var? at h
  cases e : a.sim? with
  | none => rw [e] at h; cases h
  | some s =>
    rw [e] at h
    have := sim_eq e
    subst this
    have h : s.var? = some i := h
    cases s <;> first | (cases h; rfl) | cases h
section
variable {Γ : Gam} {Φ : Phi} {k : Nat}
/-- looked at where it is simple -/
theorem look {N : List Str} {sc : Scope} {X : Cx} (g : Gd Γ N sc X) {a : E} {x : Expr} (h : okE N sc a x = true) (ih : PB X x (wE Γ Φ a)) : PE X x (liftR X.K (match a.sim? with | some s => simR Γ s | none => wE Γ Φ a)) := by
  cases e : a.sim? with
  | none => exact PE.imp ih.pe fun _ _ _ q => liftR_of q
  | some s =>
    have := sim_eq e
    subst this
    exact e_look g h
theorem el_len {N : List Str} : ∀ (es : EL) {sc : Scope} {xs : List Expr}, okEL N sc es xs = true → xs.all plainE = true
  | .nil, sc, xs, h => by
    have h : xs.isEmpty = true := h
    rw [List.isEmpty_iff] at h
    subst h
    rfl
  | .cons e es, sc, [], h => nomatch (show false = true from h)
  | .cons e es, sc, x :: xs, h => by
    have h : (plainE x && okE N sc e x && okEL N sc es xs) = true := h
    simp only [Bool.and_eq_true] at h
    rw [List.all_cons, h.1.1, el_len es h.2]
    rfl
mutual
theorem E_ok {N : List Str} : ∀ (a : E) {sc : Scope} {X : Cx} (g : Gd Γ N sc X) (c : GdC Φ k X) (x : Expr), okE N sc a x = true → PB X x (wE Γ Φ a)
  | .sim s, sc, X, g, c, x, h => e_sim g h
  | .bin o a b, sc, X, g, c, x, h => by
    unfold okE at h
    split at h
    · simp only [Bool.and_eq_true] at h
      have := operB_eq h.1.1
      subst this
      exact .val (e_bin g o (E_ok a g c _ h.1.2).pe (E_ok b g c _ h.2).pe)
    · cases h
  | .neg a, sc, X, g, c, x, h => by
    unfold okE at h
    split at h
    · exact e_neg (E_ok a g c _ h).pe
    · cases h
  | .cmp o a b, sc, X, g, c, x, h => by
    unfold okE at h
    split at h
    · simp only [Bool.and_eq_true] at h
      have := copB_eq h.1.1.1
      subst this
      have hb := look g h.2 (E_ok b g c _ h.2)
      rw [wE]
      cases e : a.var? with
      | none => exact e_cmp g o (E_ok a g c _ h.1.2).pe hb h.1.1.2
      | some i =>
        have := var_eq e
        subst this
        exact e_cmpV g o h.1.2 hb h.1.1.2
    · cases h
  | .isN a, sc, X, g, c, x, h => by
    unfold okE at h
    split at h
    · exact e_isN g (look g h (E_ok a g c _ h))
    · cases h
  | .notN a, sc, X, g, c, x, h => by
    unfold okE at h
    split at h
    · exact e_notN g (look g h (E_ok a g c _ h))
    · cases h
  | .chain o o' a b d, sc, X, g, c, x, h => by
    unfold okE at h
    split at h
    · simp only [Bool.and_eq_true] at h
      have e1 := copB_eq h.1.1.1.1.1
      have e2 := copB_eq h.1.1.1.1.2
      subst e1
      subst e2
      exact e_chain g o o' (E_ok a g c _ h.1.1.2).pe (E_ok b g c _ h.1.2).pe (E_ok d g c _ h.2).pe h.1.1.1.2
    · cases h
  | .and_ es, sc, X, g, c, x, h => by
    unfold okE at h
    split at h
    · rw [wE]
      exact (And_ok es g c _ h (by simp)).pb
    · cases h
  | .or_ es, sc, X, g, c, x, h => by
    unfold okE at h
    split at h
    · rw [wE]
      exact (Or_ok es g c _ h (by simp)).pb
    · cases h
  | .not_ a, sc, X, g, c, x, h => by
    unfold okE at h
    split at h
    · exact e_not (E_ok a g c _ h)
    · cases h
  | .ite d a b, sc, X, g, c, x, h => by
    unfold okE at h
    split at h
    · simp only [Bool.and_eq_true] at h
      exact e_ite (E_ok d g c _ h.1.1) (E_ok a g c _ h.1.2) (E_ok b g c _ h.2)
    · cases h
  | .tup es, sc, X, g, c, x, h => by
    unfold okE at h
    split at h
    · simp only [Bool.and_eq_true, decide_eq_true_eq] at h
      exact e_tup (EL_ok es g c _ h.2) h.1
    · cases h
  | .lst es, sc, X, g, c, x, h => by
    unfold okE at h
    split at h
    · simp only [Bool.and_eq_true, decide_eq_true_eq] at h
      exact e_lst (EL_ok es g c _ h.2) h.1
    · cases h
  | .idx a b, sc, X, g, c, x, h => by
    unfold okE at h
    split at h
    · simp only [Bool.and_eq_true] at h
      exact e_idx (E_ok a g c _ h.1.2).pe (E_ok b g c _ h.2).pe h.1.1
    · cases h
  | .slice a lo hi, sc, X, g, c, x, h => by
    unfold okE at h
    split at h
    · simp only [Bool.and_eq_true] at h
      exact e_slice (E_ok a g c _ h.1.1).pe (OE_ok lo g c _ h.1.2) (OE_ok hi g c _ h.2)
    · cases h
  | .rev a, sc, X, g, c, x, h => by
    unfold okE at h
    split at h
    · exact e_rev (E_ok a g c _ h).pe
    · cases h
  | .call f es, sc, X, g, c, x, h => by
    unfold okE at h
    split at h
    · simp only [Bool.and_eq_true, decide_eq_true_eq] at h
      obtain ⟨⟨⟨rfl, h2⟩, h3⟩, h4⟩ := h
      rename_i y px l ls p
      have hp := el_len es h4
      rw [List.all_cons, Bool.and_eq_true] at hp
      have p1 := e_call (pos := p) (px := px) g c h2 h3 (EL_ok es g c _ h4) hp.1 hp.2
      refine .val ?_
      match es, h4, p1 with
      | .nil, h4, p1 => exact nomatch (show false = true from h4)
      | .cons e es', h4, p1 =>
        have h4' : (plainE l && okE N sc e l && okEL N sc es' ls) = true := h4
        simp only [Bool.and_eq_true] at h4'
        cases ev : e.var? with
        | none =>
          refine PE.imp p1 fun σ H R ⟨F, G, ρ, L, Q, s, hw, kt⟩ => ?_
          rw [wE] at hw
          obtain ⟨fe, hf, hw⟩ := hw
          split at hw
          · rename_i ho
            exact ⟨F, G, ρ, L, Q, s, ⟨fe, hf, ho, hw⟩, kt⟩
          · obtain ⟨i, hi, _⟩ := hw
            rw [ev] at hi
            cases hi
          · cases hw
        | some i =>
          have := var_eq ev
          subst this
          have p2 := e_callO (pos := p) (px := px) g c h2 h3 h4'.1.2 (EL_ok es' g c _ h4'.2) hp.2
          refine PE.imp (PE.or p1 p2) fun σ H R ⟨F, G, ρ, L, Q, s, hw, kt⟩ => ?_
          rw [wE] at hw
          obtain ⟨fe, hf, hw⟩ := hw
          split at hw
          · rename_i ho
            exact .inl ⟨F, G, ρ, L, Q, s, ⟨fe, hf, ho, hw⟩, kt⟩
          · rename_i ho
            obtain ⟨j, hj, hw⟩ := hw
            have hj : some i = some j := hj
            cases hj
            exact .inr ⟨F, G, ρ, L, Q, s, ⟨fe, hf, ho, hw⟩, kt⟩
          · cases hw
    · cases h
  | .callL f ss, sc, X, g, c, x, h => by
    unfold okE at h
    split at h
    · simp only [Bool.and_eq_true, decide_eq_true_eq] at h
      obtain ⟨⟨⟨rfl, h2⟩, h3⟩, h4⟩ := h
      exact .val (e_callL g c h2 h3 h4)
    · cases h
  | .callK f ks es, sc, X, g, c, x, h => by
    unfold okE at h
    split at h
    · simp only [Bool.and_eq_true, decide_eq_true_eq] at h
      obtain ⟨⟨⟨⟨⟨rfl, h2⟩, h3⟩, h4⟩, h5⟩, h6⟩ := h
      rename_i y px kws p
      refine .val (e_callK g c h2 h3 h4 h5 ?_ (KL_ok es g c kws h6))
      rw [← h5]
      exact kw_len h4
    · cases h
  | .blt1 b e, sc, X, g, c, x, h => by
    unfold okE at h
    split at h
    · simp only [Bool.and_eq_true, decide_eq_true_eq, Bool.not_eq_true'] at h
      obtain ⟨⟨⟨⟨h1, h2⟩, h3⟩, h4⟩, h5⟩ := h
      exact e_blt1 g b ⟨fun z => by rw [z] at h3; exact absurd h3 (by decide), fun z => by rw [z] at h3; exact absurd h3 (by decide)⟩ h1 h2 (E_ok e g c _ h5).pe h4
    · cases h
  | .bltv b e, sc, X, g, c, x, h => by
    unfold okE at h
    split at h
    · simp only [Bool.and_eq_true, decide_eq_true_eq] at h
      obtain ⟨⟨⟨⟨h1, h2⟩, h3⟩, h4⟩, h5⟩ := h
      exact e_bltv g b h3 h1 h2 (look g h5 (E_ok e g c _ h5)) h4
    · cases h
  | .blt2 b e e2, sc, X, g, c, x, h => by
    unfold okE at h
    split at h
    · simp only [Bool.and_eq_true, decide_eq_true_eq] at h
      obtain ⟨⟨⟨⟨⟨⟨h1, h2⟩, h3⟩, h4⟩, h5⟩, h6⟩, h7⟩ := h
      exact e_blt2 g b (by cases b <;> first | exact .inl rfl | exact .inr rfl | exact nomatch (show false = true from h3)) h1 h2 (E_ok e g c _ h6).pe (E_ok e2 g c _ h7).pe h4 h5
    · cases h
  | .sortset a, sc, X, g, c, x, h => by
    unfold okE at h
    split at h
    · simp only [Bool.and_eq_true, decide_eq_true_eq] at h
      obtain ⟨⟨⟨⟨⟨h1, h2⟩, h3⟩, h4⟩, h5⟩, h6⟩ := h
      exact e_sortset g h1 h2 h3 h4 (look g h6 (E_ok a g c _ h6)) h5
    · cases h
  | .lrng t .non b, sc, X, g, c, x, h => by
    unfold okE at h
    split at h
    · simp only [Bool.and_eq_true, decide_eq_true_eq] at h
      obtain ⟨⟨⟨⟨⟨rfl, rfl⟩, h3⟩, h4⟩, h5⟩, h6⟩ := h
      exact e_lrng1 g t h3 h4 (E_ok b g c _ h6).pe h5
    · cases h
  | .lrng t (.som a) b, sc, X, g, c, x, h => by
    unfold okE at h
    split at h
    · simp only [Bool.and_eq_true, decide_eq_true_eq] at h
      obtain ⟨⟨⟨⟨⟨⟨⟨rfl, rfl⟩, h3⟩, h4⟩, h5⟩, h6⟩, h7⟩, h8⟩ := h
      exact e_lrng2 g t h3 h4 (E_ok a g c _ h7).pe (E_ok b g c _ h8).pe h5 h6
    · cases h
  | .lc elt tg it d vs, sc, X, g, c, x, h => by
    unfold okE at h
    split at h
    · simp only [Bool.and_eq_true] at h
      obtain ⟨⟨⟨⟨⟨⟨h1, h2⟩, h3⟩, h4⟩, h5⟩, h6⟩, h7⟩ := h
      rename_i e tx iter ifs scope p
      have hv : ∀ i ∈ tgVs tg, i ∈ (ownOf N vs).map (·.2) := fun i hi => by
        rw [ownOf_snd]
        have := List.all_eq_true.mp h3 i hi
        simpa using this
      have q := e_lc (pos := p) g (own := ownOf N vs) hv (It_ok it g c tx iter h5) h1 h2 (fun s H C cl fp => C_ok d (g.blk scope s H C cl fp) (c.blk scope s H C cl fp) _ h6) (fun s H C cl fp => (E_ok elt (g.blk scope s H C cl fp) (c.blk scope s H C cl fp) _ h7).pe) h4
      rw [ownOf_snd] at q
      refine .val ?_
      rw [wE]
      exact q
    · cases h
  | .pop i a, sc, X, g, c, x, h => by
    unfold okE at h
    split at h
    · simp only [Bool.and_eq_true, decide_eq_true_eq] at h
      obtain ⟨⟨⟨⟨rfl, h2⟩, h3⟩, h4⟩, h5⟩ := h
      exact .val (m_pop g h2 (E_ok a g c _ h5).pe h3 h4)
    · cases h
  | .index a b, sc, X, g, c, x, h => by
    unfold okE at h
    split at h
    · simp only [Bool.and_eq_true, decide_eq_true_eq] at h
      obtain ⟨⟨⟨⟨⟨rfl, h2⟩, h3⟩, h4⟩, h5⟩, h6⟩ := h
      exact e_index h2 (E_ok a g c _ h5).pe (E_ok b g c _ h6).pe h3 h4
    · cases h
theorem EL_ok {N : List Str} : ∀ (es : EL) {sc : Scope} {X : Cx} (g : Gd Γ N sc X) (c : GdC Φ k X) (xs : List Expr), okEL N sc es xs = true → PA X xs (liftL X.K xs.length (wEs Γ Φ es))
  | .nil, sc, X, g, c, xs, h => by
    have h : xs.isEmpty = true := h
    rw [List.isEmpty_iff] at h
    subst h
    exact a_nil
  | .cons e es, sc, X, g, c, [], h => nomatch (show false = true from h)
  | .cons e es, sc, X, g, c, x :: xs, h => by
    have h : (plainE x && okE N sc e x && okEL N sc es xs) = true := h
    simp only [Bool.and_eq_true] at h
    exact a_cons (E_ok e g c _ h.1.2).pe (EL_ok es g c _ h.2) h.1.1
theorem KL_ok {N : List Str} : ∀ (es : EL) {sc : Scope} {X : Cx} (g : Gd Γ N sc X) (c : GdC Φ k X) (kws : List Keyword), okEL N sc es (kwVals kws) = true → PK X kws (liftL X.K kws.length (wEs Γ Φ es))
  | .nil, sc, X, g, c, [], h => k_nil
  | .nil, sc, X, g, c, ⟨nm, x, p⟩ :: kws, h => nomatch (show false = true from h)
  | .cons e es, sc, X, g, c, [], h => nomatch (show false = true from h)
  | .cons e es, sc, X, g, c, ⟨nm, x, p⟩ :: kws, h => by
    have h : (plainE x && okE N sc e x && okEL N sc es (kwVals kws)) = true := h
    simp only [Bool.and_eq_true] at h
    exact k_cons (E_ok e g c _ h.1.2).pe (KL_ok es g c kws h.2)
theorem And_ok {N : List Str} : ∀ (es : EL) {sc : Scope} {X : Cx} {pos : Pos} (g : Gd Γ N sc X) (c : GdC Φ k X) (xs : List Expr), okEL N sc es xs = true → xs ≠ [] → PBW X (.BoolOp .And xs pos) (wAnd Γ Φ es)
  | .nil, sc, X, pos, g, c, xs, h, hn => by
    have h : xs.isEmpty = true := h
    exact absurd (List.isEmpty_iff.mp h) hn
  | .cons e es, sc, X, pos, g, c, [], h, hn => absurd rfl hn
  | .cons e .nil, sc, X, pos, g, c, x :: xs, h, hn => by
    have h : (plainE x && okE N sc e x && xs.isEmpty) = true := h
    simp only [Bool.and_eq_true, List.isEmpty_iff] at h
    obtain ⟨⟨h1, h2⟩, rfl⟩ := h
    exact e_and1 (E_ok e g c _ h2)
  | .cons e (.cons e2 es), sc, X, pos, g, c, [x], h, hn => by
    have h : (plainE x && okE N sc e x && false) = true := h
    rw [Bool.and_false] at h
    cases h
  | .cons e (.cons e2 es), sc, X, pos, g, c, x :: y :: xs, h, hn => by
    have h : (plainE x && okE N sc e x && okEL N sc (.cons e2 es) (y :: xs)) = true := h
    simp only [Bool.and_eq_true] at h
    exact e_and (E_ok e g c _ h.1.2) (And_ok (.cons e2 es) g c (y :: xs) h.2 (by simp))
theorem Or_ok {N : List Str} : ∀ (es : EL) {sc : Scope} {X : Cx} {pos : Pos} (g : Gd Γ N sc X) (c : GdC Φ k X) (xs : List Expr), okEL N sc es xs = true → xs ≠ [] → PBW X (.BoolOp .Or xs pos) (wOr Γ Φ es)
  | .nil, sc, X, pos, g, c, xs, h, hn => by
    have h : xs.isEmpty = true := h
    exact absurd (List.isEmpty_iff.mp h) hn
  | .cons e es, sc, X, pos, g, c, [], h, hn => absurd rfl hn
  | .cons e .nil, sc, X, pos, g, c, x :: xs, h, hn => by
    have h : (plainE x && okE N sc e x && xs.isEmpty) = true := h
    simp only [Bool.and_eq_true, List.isEmpty_iff] at h
    obtain ⟨⟨h1, h2⟩, rfl⟩ := h
    exact e_or1 (E_ok e g c _ h2)
  | .cons e (.cons e2 es), sc, X, pos, g, c, [x], h, hn => by
    have h : (plainE x && okE N sc e x && false) = true := h
    rw [Bool.and_false] at h
    cases h
  | .cons e (.cons e2 es), sc, X, pos, g, c, x :: y :: xs, h, hn => by
    have h : (plainE x && okE N sc e x && okEL N sc (.cons e2 es) (y :: xs)) = true := h
    simp only [Bool.and_eq_true] at h
    exact e_or (E_ok e g c _ h.1.2) (Or_ok (.cons e2 es) g c (y :: xs) h.2 (by simp))
theorem OE_ok {N : List Str} : ∀ (o : OE) {sc : Scope} {X : Cx} (g : Gd Γ N sc X) (c : GdC Φ k X) (x : Option Expr), okOE N sc o x = true → PO X x (liftO X.K (wO Γ Φ o))
  | .non, sc, X, g, c, none, h => o_none
  | .non, sc, X, g, c, some x, h => nomatch (show false = true from h)
  | .som e, sc, X, g, c, none, h => nomatch (show false = true from h)
  | .som e, sc, X, g, c, some x, h => o_some (E_ok e g c x h).pe
theorem C_ok {N : List Str} : ∀ (o : OE) {sc : Scope} {X : Cx} (g : Gd Γ N sc X) (c : GdC Φ k X) (xs : List Expr), okC N sc o xs = true → PTs X xs (liftC X.K (wC Γ Φ o))
  | .non, sc, X, g, c, xs, h => by
    have h : xs.isEmpty = true := h
    rw [List.isEmpty_iff] at h
    subst h
    exact c_none
  | .som e, sc, X, g, c, [], h => nomatch (show false = true from h)
  | .som e, sc, X, g, c, [x], h => c_some (E_ok e g c x h).pt
  | .som e, sc, X, g, c, x :: y :: xs, h => nomatch (show false = true from h)
theorem It_ok {N : List Str} : ∀ (it : It) {sc : Scope} {X : Cx} (g : Gd Γ N sc X) (c : GdC Φ k X) (tg x : Expr), okIt N sc it tg x = true → PI X tg x (liftI X.K (wI Γ Φ it))
  | .seq a, sc, X, g, c, tg, x, h => i_seq (E_ok a g c x h).pe
  | .rng .non b, sc, X, g, c, tg, x, h => by
    unfold okIt at h
    split at h
    · simp only [Bool.and_eq_true, decide_eq_true_eq] at h
      obtain ⟨⟨⟨rfl, h2⟩, h3⟩, h4⟩ := h
      exact i_rng1 g h2 (E_ok b g c _ h4).pe h3
    · cases h
  | .rng (.som a) b, sc, X, g, c, tg, x, h => by
    unfold okIt at h
    split at h
    · simp only [Bool.and_eq_true, decide_eq_true_eq] at h
      obtain ⟨⟨⟨⟨⟨rfl, h2⟩, h3⟩, h4⟩, h5⟩, h6⟩ := h
      exact i_rng2 g h2 (E_ok a g c _ h5).pe (E_ok b g c _ h6).pe h3 h4
    · cases h
  | .enum a, sc, X, g, c, tg, x, h => by
    unfold okIt at h
    split at h
    · simp only [Bool.and_eq_true, decide_eq_true_eq] at h
      obtain ⟨⟨⟨rfl, h2⟩, h3⟩, h4⟩ := h
      exact i_enum g h2 (E_ok a g c _ h4).pe h3
    · cases h
  | .zip a b, sc, X, g, c, tg, x, h => by
    unfold okIt at h
    split at h
    · simp only [Bool.and_eq_true, decide_eq_true_eq] at h
      obtain ⟨⟨⟨⟨⟨rfl, h2⟩, h3⟩, h4⟩, h5⟩, h6⟩ := h
      exact i_zip g h2 (E_ok a g c _ h5).pe (E_ok b g c _ h6).pe h3 h4
    · cases h
end
end
end Tr
set_option Elab.async false
set_option linter.all false
set_option maxRecDepth 100000
set_option maxHeartbeats 4000000
/-! The tree layer, part 18: statements of the small language; a def's promise from its body. -/
namespace Tr
open PySem PySem.Spec PyProof.Rows L2
def kpB (kp : Option Nat) (i : Nat) : Bool := match kp with
  | some j => !(j == i)
  | none => true
theorem kpB_ne {kp : Option Nat} {i : Nat} (h : kpB kp i = true) : kp ≠ some i := fun e => by
  subst e
  unfold kpB at h
  simp at h
theorem kpB_all {kp : Option Nat} {is : List Nat} (h : is.all (kpB kp) = true) : ∀ i, kp = some i → i ∉ is := fun i e hi => kpB_ne (List.all_eq_true.mp h i hi) e
def kindB (sc : Scope) : Bool := match sc.kind with | .function => true | _ => false
theorem kindB_eq {sc : Scope} (h : kindB sc = true) : sc.kind = .function := by
  unfold kindB at h
  split at h
  · assumption
  · cases h
/-- name = [..]: is the name stored ahead of the walk -/
def swL (sc : Scope) (e : Expr) (y : Str) (py : Pos) : Bool := match e with
  | .ListComp _ _ scope pos => (sc.names.lookup y == some .local) && (py.line == pos.line) && !(scope.names.any fun (n, k) => n == y && (k == .local || k == .cell))
  | _ => false
theorem swL_eq {sc : Scope} {env : Env} {e : Expr} {y : Str} {py : Pos} {line : Nat} (hs : env.scope = sc) (hk : sc.kind = .function) (hc : notComp e = true ∨ ∃ a b c d, e = .ListComp a b c d) : swapsWith e (some (.Name y py)) line env = pure (swL sc e y py) := by
  rcases hc with hc | ⟨a, b, c, d, rfl⟩
  · rw [sw_not hc]
    cases e <;> first | rfl | exact nomatch (show false = true from hc)
  · have hb : env.blockKind = .function := by unfold Env.blockKind; rw [hs, hk]; rfl
    have ky : env.kindOf y = sc.names.lookup y := by rw [← hs]; rfl
    unfold swapsWith swL
    simp only [hb, ky]
    rfl
def isComp : Expr → Bool
  | .ListComp .. => true
  | _ => false
theorem isComp_eq {e : Expr} (h : isComp e = true) : ∃ a b c d, e = .ListComp a b c d := by
  cases e <;> first | exact ⟨_, _, _, _, rfl⟩ | exact nomatch (show false = true from h)
def swB (sc : Scope) (ts vs : List Expr) : Bool := match swN sc ts vs with
  | some none => true
  | some (some xs) => xs.all (fun x => decide (sc.names.lookup x = some .local)) && decide xs.Nodup && decide (ts.filterMap nameOf = xs) && (decide (ts.length = 2) || decide (ts.length = 3))
  | none => false
theorem sw_sub {sc : Scope} {a b a2 b2 : Expr} {p p2 : Pos} {vs : List Expr} (h : vs.length = 2) : swN sc [.Subscript a b p, .Subscript a2 b2 p2] vs = some none := by
  unfold swN
  split
  · rfl
  · split
    · rfl
    · rfl
mutual
def okS (N : List Str) (sc : Scope) (kp : Option Nat) : S → Stmt → Bool
  | .set i e, st => (match st with | .Assign [.Name x p] v _ => decide (N[i]? = some x) && locB sc x && kpB kp i && (notComp v || isComp v) && okE N sc e v | _ => false)
  | .unp (.tup tt) e, st => (match st with | .Assign [.Tuple ts k p] v _ => okTg N (locB sc) (.tup tt) (.Tuple ts k p) && (tgVs (.tup tt)).all (kpB kp) && notTup v && okE N sc e v | _ => false)
  | .unp _ _, _ => false
  | .par is es, st => (match st with | .Assign [.Tuple ts _ _] (.Tuple vs _ _) _ => okNames N (locB sc) is ts && is.all (kpB kp) && decide (vs.length ≤ 1000) && decide (ts.length = vs.length) && okEL N sc es vs && swB sc ts vs | _ => false)
  | .ix1 i k e, st => (match st with | .Assign [.Subscript a b _] v _ => okSE N sc (.var i) a && okSE N sc k b && plainE b && okE N sc e v | _ => false)
  | .ix2 i j k e, st => (match st with | .Assign [.Subscript (.Subscript a b0 _) b _] v _ => okSE N sc (.var i) a && okSE N sc j b0 && plainE b0 && okSE N sc k b && plainE b && okE N sc e v | _ => false)
  | .ixp i j k es, st => (match st with | .Assign [.Tuple [.Subscript a b _, .Subscript a2 b2 _] _ _] (.Tuple vs _ _) _ => okSE N sc (.var i) a && okSE N sc j b && plainE b && okSE N sc (.var i) a2 && okSE N sc k b2 && plainE b2 && okEL N sc es vs && decide (vs.length ≤ 1000) && decide (vs.length = 2) | _ => false)
  | .ixe i j e, st => (match st with | .Assign [.Subscript a b _] v _ => okSE N sc (.var i) a && okE N sc j b && plainE b && okE N sc e v | _ => false)
  | .app i e, st => (match st with | .Expr (.Call (.Attribute l name ap) [r] [] p) _ => decide (name = "append") && okSE N sc (.var i) l && plainE r && (ap.endLine == p.line) && okE N sc e r | _ => false)
  | .ext i e, st => (match st with | .Expr (.Call (.Attribute l name ap) [r] [] p) _ => decide (name = "extend") && okSE N sc (.var i) l && plainE r && (ap.endLine == p.line) && okE N sc e r | _ => false)
  | .expr e, st => (match st with | .Expr v _ => notComp v && okE N sc e v | _ => false)
  | .ret e, st => (match st with | .Return (some v) _ => okE N sc e v | _ => false)
  | .retv i, st => (match st with | .Return (some v) _ => kpB kp i && okSE N sc (.var i) v | _ => false)
  | .retN, st => (match st with | .Return none _ => true | _ => false)
  | .ite c a b, st => (match st with | .If t x y _ => okE N sc c t && okSL N sc kp a x && okSL N sc kp b y | _ => false)
  | .for_ tg it body er, st => (match st with | .For tx iter bx [] _ => okTg N (locB sc) tg tx && (tgVs tg).all (kpB kp) && plainE iter && okIt N sc it tx iter && okSL N sc kp body bx | _ => false)
  | .while_ c body er, st => (match st with | .While t bx [] _ => okE N sc c t && okSL N sc kp body bx | _ => false)
  | .pass, st => (match st with | .Pass _ => true | _ => false)
  | .brk, st => (match st with | .Break _ => true | _ => false)
  | .cont, st => (match st with | .Continue _ => true | _ => false)
  | .never, _ => true
def okSL (N : List Str) (sc : Scope) (kp : Option Nat) : SL → List Stmt → Bool
  | .nil, xs => xs.isEmpty
  | .cons s ss, xs => (match xs with | x :: xs => okS N sc kp s x && okSL N sc kp ss xs | [] => false)
end
section
variable {Γ : Gam} {Φ : Phi} {k : Nat} {N : List Str} {sc : Scope} {X : Cx} {kp : Option Nat}
theorem PS.eqv {st : Stmt} {w w' : WS} (h : PSt kp X st w) (e : ∀ D ρ, w' D ρ → w D ρ) : PSt kp X st w' := PS.imp h fun D σ H ⟨F, G, ρ, L, D', s, hw, kt⟩ => ⟨F, G, ρ, L, D', s, e D' ρ hw, kt⟩
mutual
theorem S_ok (g : Gd Γ N sc X) (c : GdC Φ k X) (t : GdT (locB sc) X) (po : GdP X) (hk : sc.kind = .function) : ∀ (s : S) (st : Stmt), okS N sc kp s st = true → PSt kp X st (wS Γ Φ s)
  | .set i e, st, h => by
    unfold okS at h
    split at h
    · simp only [Bool.and_eq_true, decide_eq_true_eq, Bool.or_eq_true] at h
      obtain ⟨⟨⟨⟨h1, h2⟩, h3⟩, h4⟩, h5⟩ := h
      rename_i x p v pos
      have hsw := swL_eq (line := pos.line) (y := x) (py := p) g.sc hk (h4.imp id isComp_eq)
      cases hb : swL sc v x p with
      | false =>
        rw [hb] at hsw
        exact s_set g t h1 h2 (kpB_ne h3) (E_ok e g c v h5).pe hsw
      | true =>
        rw [hb] at hsw
        have hl : sc.names.lookup x = some .local := by
          unfold swL at hb
          split at hb
          · simp only [Bool.and_eq_true, beq_iff_eq] at hb
            exact hb.1.1
          · cases hb
        cases e with
        | lc elt tg it d vs =>
          unfold okE at h5
          split at h5
          · simp only [Bool.and_eq_true] at h5
            obtain ⟨⟨⟨⟨⟨⟨q1, q2⟩, q3⟩, q4⟩, q5⟩, q6⟩, q7⟩ := h5
            rename_i e' tx iter ifs scope p'
            have hv : ∀ i ∈ tgVs tg, i ∈ (ownOf N vs).map (·.2) := fun i hi => by
              rw [ownOf_snd]
              have := List.all_eq_true.mp q3 i hi
              simpa using this
            have q := s_lc g (own := ownOf N vs) h1 hl hsw hv (It_ok it g c tx iter q5) q1 q2 (fun s H C cl fp => C_ok d (g.blk scope s H C cl fp) (c.blk scope s H C cl fp) _ q6) (fun s H C cl fp => (E_ok elt (g.blk scope s H C cl fp) (c.blk scope s H C cl fp) _ q7).pe) q4
            rw [ownOf_snd] at q
            refine PS.imp q fun D σ H hq => tAsg_set (kp := kp) (kpB_ne h3) ?_
            obtain ⟨F, G, ρ, L, D', s, hw, kt⟩ := hq
            rw [wS, wE] at hw
            exact ⟨F, G, ρ, L, D', s, hw, kt⟩
          · cases h5
        | _ =>
          exfalso
          obtain ⟨a, b, c', d, rfl⟩ : ∃ a b c d, v = .ListComp a b c d := by
            unfold swL at hb
            split at hb
            · exact ⟨_, _, _, _, rfl⟩
            · cases hb
          first
            | exact nomatch (show false = true from h5)
            | (unfold okE at h5; exact nomatch (show false = true from h5))
            | (rename_i s0; cases s0 <;> exact nomatch (show false = true from h5))
            | (rename_i t0 a0 b0; cases a0 <;> exact nomatch (show false = true from h5))
    · cases h
  | .unp (.tup tt) e, st, h => by
    unfold okS at h
    split at h
    · simp only [Bool.and_eq_true] at h
      obtain ⟨⟨⟨h1, h2⟩, h3⟩, h4⟩ := h
      rw [wS]
      exact s_unp g t h1 (kpB_all h2) (E_ok e g c _ h4).pe h3
    · cases h
  | .unp (.name i) e, st, h => by
    unfold okS at h
    cases h
  | .par is es, st, h => by
    unfold okS at h
    split at h
    · simp only [Bool.and_eq_true, decide_eq_true_eq] at h
      obtain ⟨⟨⟨⟨⟨h1, h2⟩, h3⟩, h4⟩, h5⟩, h6⟩ := h
      rename_i ts k1 p1 vs k2 p2 p3
      have hlen := (g_names g t is ts h1).2.2.1
      rw [wS]
      unfold swB at h6
      split at h6
      · rename_i hs
        exact s_par g t h1 (kpB_all h2) (EL_ok es g c vs h5) h3 (by rw [hlen, h4]) (sw_eq g.sc hk hs)
      · rename_i xs hs
        simp only [Bool.and_eq_true, decide_eq_true_eq, Bool.or_eq_true] at h6
        obtain ⟨⟨⟨q1, q2⟩, q3⟩, q4⟩ := h6
        exact s_par2 g h1 (kpB_all h2) (EL_ok es g c vs h5) h4.symm (fun x hx => by have := List.all_eq_true.mp q1 x hx; simpa using this) q2 q3 q4 (sw_eq g.sc hk hs)
      · cases h6
    · cases h
  | .ix1 i k1 e, st, h => by
    unfold okS at h
    split at h
    · simp only [Bool.and_eq_true] at h
      rw [wS]
      exact s_ix1 g h.1.1.1 h.1.1.2 h.1.2 (E_ok e g c _ h.2).pe
    · cases h
  | .ix2 i j k1 e, st, h => by
    unfold okS at h
    split at h
    · simp only [Bool.and_eq_true] at h
      obtain ⟨⟨⟨⟨⟨h1, h2⟩, h3⟩, h4⟩, h5⟩, h6⟩ := h
      rw [wS]
      exact s_ix2 g h1 h2 h3 h4 h5 (E_ok e g c _ h6).pe
    · cases h
  | .ixp i j k1 es, st, h => by
    unfold okS at h
    split at h
    · simp only [Bool.and_eq_true, decide_eq_true_eq] at h
      obtain ⟨⟨⟨⟨⟨⟨⟨⟨h1, h2⟩, h3⟩, h4⟩, h5⟩, h6⟩, h7⟩, h8⟩, h9⟩ := h
      rename_i vs k5 p5 p6
      rw [wS]
      exact s_ixp g h1 h2 h3 h4 h5 h6 (EL_ok es g c vs h7) h8 (sw_eq g.sc hk (sw_sub h9))
    · cases h
  | .ixe i j e, st, h => by
    unfold okS at h
    split at h
    · simp only [Bool.and_eq_true] at h
      rw [wS]
      exact s_ixe g h.1.1.1 (E_ok j g c _ h.1.1.2).pe h.1.2 (E_ok e g c _ h.2).pe
    · cases h
  | .app i e, st, h => by
    unfold okS at h
    split at h
    · simp only [Bool.and_eq_true, decide_eq_true_eq] at h
      obtain ⟨⟨⟨⟨rfl, h2⟩, h3⟩, h4⟩, h5⟩ := h
      rw [wS]
      exact s_expr (m_app g h2 (E_ok e g c _ h5).pe h3 h4) rfl
    · cases h
  | .ext i e, st, h => by
    unfold okS at h
    split at h
    · simp only [Bool.and_eq_true, decide_eq_true_eq] at h
      obtain ⟨⟨⟨⟨rfl, h2⟩, h3⟩, h4⟩, h5⟩ := h
      rw [wS]
      exact s_expr (m_ext g h2 (E_ok e g c _ h5).pe h3 h4) rfl
    · cases h
  | .expr e, st, h => by
    unfold okS at h
    split at h
    · simp only [Bool.and_eq_true] at h
      rw [wS]
      exact s_expr (E_ok e g c _ h.2).pe h.1
    · cases h
  | .ret e, st, h => by
    unfold okS at h
    split at h
    · rw [wS]
      exact s_ret (E_ok e g c _ h).pe
    · cases h
  | .retv i, st, h => by
    unfold okS at h
    split at h
    · simp only [Bool.and_eq_true] at h
      rw [wS]
      exact s_retv g (kpB_ne h.1) h.2
    · cases h
  | .retN, st, h => by
    unfold okS at h
    split at h
    · rw [wS]
      exact s_retN
    · cases h
  | .ite d a b, st, h => by
    unfold okS at h
    split at h
    · simp only [Bool.and_eq_true] at h
      rw [wS]
      exact s_if (E_ok d g c _ h.1.1).pt (SL_ok g c t po hk a _ h.1.2) (SL_ok g c t po hk b _ h.2)
    · cases h
  | .for_ tg it body er, st, h => by
    unfold okS at h
    split at h
    · simp only [Bool.and_eq_true] at h
      obtain ⟨⟨⟨⟨h1, h2⟩, h3⟩, h4⟩, h5⟩ := h
      rw [wS]
      exact s_for g t po er (It_ok it g c _ _ h4) h1 (kpB_all h2) (SL_ok g c t po hk body _ h5) h3
    · cases h
  | .while_ d body er, st, h => by
    unfold okS at h
    split at h
    · simp only [Bool.and_eq_true] at h
      rw [wS]
      exact s_while po er (E_ok d g c _ h.1).pt (SL_ok g c t po hk body _ h.2)
    · cases h
  | .pass, st, h => by
    unfold okS at h
    split at h
    · rw [wS]
      exact s_pass
    · cases h
  | .brk, st, h => by
    unfold okS at h
    split at h
    · rw [wS]
      exact s_brk
    · cases h
  | .cont, st, h => by
    unfold okS at h
    split at h
    · rw [wS]
      exact s_cont
    · cases h
  | .never, st, h => by
    rw [wS]
    exact s_never
theorem SL_ok (g : Gd Γ N sc X) (c : GdC Φ k X) (t : GdT (locB sc) X) (po : GdP X) (hk : sc.kind = .function) : ∀ (s : SL) (st : List Stmt), okSL N sc kp s st = true → PSts kp X st (wSL Γ Φ s)
  | .nil, st, h => by
    have h : st.isEmpty = true := h
    rw [List.isEmpty_iff] at h
    subst h
    exact ss_nil
  | .cons s ss, [], h => nomatch (show false = true from h)
  | .cons s ss, x :: xs, h => by
    have h : (okS N sc kp s x && okSL N sc kp ss xs) = true := h
    simp only [Bool.and_eq_true] at h
    have q := ss_cons (kp := kp) (S_ok g c t po hk s x h.1) (SL_ok g c t po hk ss xs h.2)
    rw [wSL]
    exact q
end
end
/-- what stands of the module around: its globals, the built-ins, the defs that may be called -/
structure GdM (Γ : Gam) (Φ : Phi) (k : Nat) (P : Program) (w : World) (K : PySem.W.Frag) (mg : Str → Option Value) (base : Heap) : Prop where
  bl : ∀ x ∈ bnames, mg x = none
  gl : ∀ x d, Γ x = some d → ∃ u v, mg x = some u ∧ RelV v u ∧ ∀ G, Dq G v d
  fns : ∀ f fe, Φ f = some fe → ∃ addr fd, mg f = some (.ref addr) ∧ PySem.W.keepIn K (.ref addr) = true ∧ GnOk P w K mg base k addr fd fe.ps (liftF K fe.ow fe.fs) ∧ Binds K fd fe.ps [] ∧ ∀ ks ∈ fe.kw, BK fd fe.ps ks
/-- a def of the text keeps its promise over trees -/
theorem fn_ok {Γ : Gam} {Φ : Phi} {P : Program} {w : World} {K : PySem.W.Frag} {mg : Str → Option Value} {base : Heap} {k : Nat} {x qual : Str} {st : Stmt} {f : Addr} {fd : FuncData} {N ps : List Str} {b : SL} {ow : Option Nat}
    (M : GdM Γ Φ k P w K mg base) (F : Fun K x qual st f fd) (S : FnScope N ps (defScope st)) (hb : okSL N (defScope st) ow b (defBody st) = true) (how : ∀ i, ow = some i → i < ps.length) {sp : FS}
    (hsp : ∀ xs Q, sp xs Q → fsOf Γ Φ ps.length N.length b xs Q) :
    GnOk P w K mg base (k + 1) f fd ps (liftF K ow sp) := by
  refine gn_of F S (fun vs H Q ⟨F, G, xs, L, Q', s, hf, _⟩ => ?_) fun cdv A outer s H vs Q room guards ⟨F, G, xs, L, Q', st0, hf, kt⟩ => ?_
  · have h1 := (hsp xs _ hf).1
    have h2 := s.sr.length
    simp only [List.length_map] at h2
    omega
  · obtain ⟨hlen, hw⟩ := hsp xs _ hf
    have hvs : vs.length = ps.length := by
      have h2 := st0.sr.length
      simp only [List.length_map] at h2
      omega
    have g : Gd Γ N (defScope st) (cxOf CX0 P w K mg base N qual (defScope st) f cdv A outer s H fun _ _ _ => False).nox := ⟨rfl, rfl, S.nd, rfl, guards, by have := room.un; show A.units + 3 + 200 < cLine; have h3 : (A.deeper (envOfC qual (defScope st) s.heap.objs.size f cdv)).units = A.units + 3 := rfl; omega, M.bl, M.gl⟩
    have c : GdC Φ k (cxOf CX0 P w K mg base N qual (defScope st) f cdv A outer s H fun _ _ _ => False).nox := ⟨room, M.fns⟩
    have loc : ∀ y, locB (defScope st) y = true → Loc (defScope st) y := fun y h => by
      unfold locB at h
      split at h
      · exact Or.inl (by assumption)
      · exact Or.inr (by assumption)
      · cases h
    have t : GdT (locB (defScope st)) (cxOf CX0 P w K mg base N qual (defScope st) f cdv A outer s H fun _ _ _ => False).nox := ⟨loc, fun _ _ => .inl rfl⟩
    refine ⟨_, SL_ok (kp := ow) g c t PassesOwn.never S.kind b _ hb, F, G, _, L, _, ?_, hw, ?_⟩
    · have sr := SR.append st0.sr (SR.nones (K := K) (G := G) (H := H) (N.length - ps.length))
      rw [List.append_nil] at sr
      refine ⟨?_, st0.nd, st0.fr, st0.fh, st0.gh⟩
      unfold L2.start
      rw [hvs]
      exact sr
    · have kk : ∀ {σ' : L2.St}, kept ow (L2.start N vs) σ' → ∀ i, ow = some i → σ'[i]? = vs[i]?.map some := fun {σ'} h i e => by
        rw [h i e]
        unfold L2.start
        rw [List.getElem?_append_left (by rw [List.length_map, hvs]; exact how i e), List.getElem?_map]
      exact ⟨fun ρ' σ' G' H' L' a h q => kt _ _ _ _ _ _ _ _ a (Val.pure .non) (kk h) q, fun ρ' σ' G' H' L' a h q => q, fun ρ' σ' G' H' L' a h q => q, fun x v ρ' σ' G' H' L' M a h q r => kt _ _ _ _ _ _ _ _ a q (kk h) r⟩
end Tr
set_option Elab.async false
set_option linter.all false
set_option maxRecDepth 100000
set_option maxHeartbeats 4000000
/-! The tree layer, part 19: the law's own head, where no repr is under way. -/
namespace Tr
open PySem PySem.Spec PyProof.Rows L2
section
variable {P : Program} {w : World} {K : PySem.W.Frag} {mg mb : Str → Option Value} {k : Nat} {fa a : Addr} {fd : FuncData} {x : Str} {s₁ : Shared} {vs : List Value} {ns : List Int}
/-- where nothing but the script is tracked: the call's state -/
theorem head_env {H : Hp} (kin : K.In s₁.heap) (glob : s₁.heap.Ns mainGlobals mg) (bns : s₁.heap.Ns builtinsNs mb) (blt : ∀ x : Str, x ≠ "__name__" → mb x = bootBuiltins x) (lim : s₁.heap.NoLimit) (gens : s₁.gens = #[])
    (obj : s₁.heap.get? a = some { cls := .type "list", data := .seq vs.toArray }) (only : ∀ b, H b ≠ none → b = a) (free : H a ≠ none → K.lookup a = none) (hok : HOk P w H s₁.heap) :
    K.In (hidT s₁.heap H) ∧ (hidT s₁.heap H).Ns mainGlobals mg ∧ Env0 P w K mg (hidT s₁.heap H) callerA [] s₁ H := by
  have isA : ∀ {b : Addr} {u : HO}, H b = some u → b = a := fun {b u} q => only b (by rw [q]; exact fun z => (nomatch z))
  have dicts : ∀ {b : Addr} {o : Obj} {es : Array DictEntry} {ep : Nat}, s₁.heap.get? b = some o → o.data = .dict es ep → H b = none := by
    intro b o es ep e d
    cases q : H b with
    | none => rfl
    | some u =>
      rw [isA q, obj] at e
      cases e
      exact nomatch (show Data.seq vs.toArray _ = Data.dict es ep from d)
  have ns_in : ∀ {b : Addr} {m : Str → Option Value}, s₁.heap.Ns b m → (hidT s₁.heap H).Ns b m :=
    fun {b m} ⟨o, es, ep, e, d, r⟩ => ⟨o, es, ep, hidT_get e (dicts e d), d, r⟩
  have kin' : K.In (hidT s₁.heap H) := by
    intro b o e
    refine hidT_get (kin b o e) ?_
    cases q : H b with
    | none => rfl
    | some u =>
      have z := isA q
      subst z
      rw [free (by rw [q]; exact fun z => (nomatch z))] at e
      cases e
  obtain ⟨mc, l1, l2⟩ := lim
  exact ⟨kin', ns_in glob, rfl, ⟨kin', ns_in glob, ⟨mb, ns_in bns, blt⟩, mc, ns_in l1, l2⟩, fun b o e => of_hidT e, Nat.le_of_eq (hidT_size _ _), trivial, fun b hb => (nomatch hb), hok, .of_eq gens⟩
theorem head_run {H : Hp} {sp : FS} (kin : K.In s₁.heap) (glob : s₁.heap.Ns mainGlobals mg) (bns : s₁.heap.Ns builtinsNs mb) (blt : ∀ x : Str, x ≠ "__name__" → mb x = bootBuiltins x) (lim : s₁.heap.NoLimit) (gens : s₁.gens = #[])
    (obj : s₁.heap.get? a = some { cls := .type "list", data := .seq vs.toArray }) (only : ∀ b, H b ≠ none → b = a) (free : H a ≠ none → K.lookup a = none) (hok : HOk P w H s₁.heap) (froz : ∀ b u, H b = some u → ∃ o xs, u = .frz o (.lst xs))
    (room : Room k callerA) (prom : ∀ base : Heap, K.In base → base.Ns mainGlobals mg → GnOk P w K mg base k fa fd [x] (liftF K none sp)) (bind : ∀ (s : Shared) (u : Value), BindsTo s fd ⟨[u], []⟩ [(x, u)])
    (seq : SqL K H a (ns.map V.int)) (truth : sp [.scr ns] fun z _ => z = .d (.bool true)) :
    codeAny (model P w) callerA (.call (.ref fa) ⟨[.ref a], []⟩) (fun r s' => r = .ok (.ret (.bool true)) ∧ OldK s₁.heap s'.heap ∧ s'.os = s₁.os ∧ AllBare s'.gens) s₁ := by
  obtain ⟨kb, gb, e0⟩ := head_env kin glob bns blt lim gens obj only free hok
  have want : liftF K none sp [V.ref a] H (fun v _ => v = .bl true) := by
    refine ⟨fun _ => none, H, [.scr ns], [], _, ⟨.yes (L := []) (M := []) (.scr seq) .nil, List.nodup_nil, fun _ z => (nomatch z), fun _ _ z => (nomatch z), Same.refl _⟩, truth, fun z v ns' σ' G' H' L' M a' q _ hz => ?_⟩
    subst hz
    exact q.r.dq.1.bl_of
  refine codeAny_mono ((prom _ kb gb).run callerA [] s₁ H ⟨[.ref a], []⟩ [.ref a] [.ref a] _ room rfl e0 (bind s₁ (.ref a)) (.cons rfl .nil) want) fun r s' h => ?_
  obtain ⟨u, rfl, v, H', os, bare, un, hok', r', q⟩ := gn_end h
  have q : v = .bl true := q
  subst q
  obtain rfl : u = Value.bool true := r'
  refine ⟨rfl, OldK.of_keep fun b o e => ?_, os, bare⟩
  cases q : H b with
  | none => exact un.keep b o e q (fun z => (nomatch z)) (fun z => (nomatch z))
  | some u =>
    obtain ⟨ob, xs, rfl⟩ := froz b u q
    obtain ⟨e1, _⟩ := hok b _ q
    obtain ⟨e2, _⟩ := hok' b _ (un.frzs b ob _ q)
    rw [e] at e1
    cases e1
    exact e2
end
/-- the goal that k_head leaves, from the law's promise over trees -/
theorem walk_gn {l : PySem.W.OpenLaw} {n k : Nat} {q : Program} {loose : List Str} {XP : (Str → Option Value) → Heap → Prop} {YP : World → Heap → Prop} {d : DefRec} {K : Params → PySem.W.Frag} {sp : FS} {x : Str}
    (hn : l.most = some n) (hn2 : n ≤ sizeLine) (hdf : d.params.defaults = []) (room : Room k callerA) (hY : ∀ (w : World) (h : Heap), YP w h → (K w.params).In h)
    (F : ∀ (w : World) (mg : Str → Option Value) (fa : Addr) (h : Heap), (K w.params).In h → h.Ns mainGlobals mg → mg d.name = some (.ref fa) →
      ∃ fd : FuncData, (∀ (s : Shared) (u : Value), BindsTo s fd ⟨[u], []⟩ [(x, u)]) ∧ ∀ base : Heap, (K w.params).In base → base.Ns mainGlobals mg → GnOk l.prog w (K w.params) mg base k fa fd [x] (liftF (K w.params) none sp))
    (truth : ∀ ns : List Int, ns.length ≤ n → (∀ z ∈ ns, Builtin.Int.intBits z ≤ 1048576) → sp [.scr ns] fun z _ => z = .d (.bool true)) :
    PySem.W.WalkO q loose XP YP l.row.toRowW d [] (fun f vs => PySem.call f vs) := by
  refine Att.attach_callB hn hdf fun w s₀ s₁ mg mb fa o pm cd doc a vs ns G Y ho hd hcd hmg hobj hints hlen hbits hg => ?_
  have kin := hY w _ Y
  obtain ⟨fd, hb, hF⟩ := F w mg fa _ kin G.T.g hmg
  have rv := vals_ints hints
  have small : ns.length ≤ sizeLine := Nat.le_trans hlen hn2
  have lv := hints.length
  cases hk : (K w.params).lookup a with
  | some ob =>
    have e := kin a ob hk
    rw [hobj] at e
    cases e
    exact head_run (H := fun _ => none) kin G.T.g G.T.b G.T.builtins G.T.nolimit hg hobj (fun b z => absurd rfl z) (fun z => absurd rfl z) (fun b u z => (nomatch z)) (fun b u z => (nomatch z)) room hF hb
      (.inr ⟨_, vs.toArray, _, hk, rfl, rfl, rfl, by rw [List.size_toArray, lv]; exact small, by simpa using rv⟩) (truth ns hlen hbits)
  | none =>
    have at' : ∀ b u, (if b = a then some (HO.frz { cls := .type "list", data := .seq vs.toArray } (.lst (ns.map V.int))) else none) = some u → b = a ∧ u = .frz { cls := .type "list", data := .seq vs.toArray } (.lst (ns.map V.int)) := fun b u z => by
      by_cases h : b = a
      · rw [if_pos h] at z
        exact ⟨h, (Option.some.inj z).symm⟩
      · rw [if_neg h] at z
        cases z
    refine head_run (H := fun b => if b = a then some (.frz { cls := .type "list", data := .seq vs.toArray } (.lst (ns.map V.int))) else none) kin G.T.g G.T.b G.T.builtins G.T.nolimit hg hobj (fun b z => ?_) (fun _ => hk) (fun b u z => ?_) (fun b u z => ?_) room hF hb
      (.inl (.inr ⟨{ cls := .type "list", data := .seq vs.toArray }, if_pos rfl⟩)) (truth ns hlen hbits)
    · by_cases h : b = a
      · exact h
      · exact absurd (if_neg h) z
    · obtain ⟨rfl, rfl⟩ := at' b u z
      exact ⟨hobj, by rw [List.length_map]; exact small, vs, _, rv, hobj⟩
    · obtain ⟨_, rfl⟩ := at' b u z
      exact ⟨_, _, rfl⟩
end Tr
set_option Elab.async false
set_option linter.all false
set_option maxRecDepth 100000
set_option maxHeartbeats 4000000
/-! The tree layer, part 20: rules to step through a body over trees; loops are kept folded. -/
namespace Tr
open PySem PySem.Spec PyProof.Rows L2
/-- a value that has come, kept folded until it is known -/
def onV (o : Option Tv) (K : Tv → Prop) : Prop := match o with
  | some (.d x) => K (.d x)
  | some (.scr ns) => K (.scr ns)
  | _ => False
def onW (o : Option Tv) (i : Nat) (ρ : Env') (Q : Tv → Env' → Prop) : Prop := match o with
  | some (.d x) => Q (.d x) ρ
  | some (.scr ns) => Q (.scr ns) ρ
  | some (.own xs) => ∃ d, (Tv.own xs).frz = some d ∧ Q (.d d) (ρ.set i (some (.d d)))
  | none => False
theorem onV_d {x : PyData} {K : Tv → Prop} : onV (some (.d x)) K = K (.d x) := rfl
theorem onV_scr {x : List Int} {K : Tv → Prop} : onV (some (.scr x)) K = K (.scr x) := rfl
theorem onW_d {x : PyData} {i : Nat} {ρ : Env'} {Q : Tv → Env' → Prop} : onW (some (.d x)) i ρ Q = Q (.d x) ρ := rfl
theorem onW_scr {x : List Int} {i : Nat} {ρ : Env'} {Q : Tv → Env' → Prop} : onW (some (.scr x)) i ρ Q = Q (.scr x) ρ := rfl
theorem onW_own {xs : List Tv} {i : Nat} {ρ : Env'} {Q : Tv → Env' → Prop} : onW (some (.own xs)) i ρ Q = ∃ d, (Tv.own xs).frz = some d ∧ Q (.d d) (ρ.set i (some (.d d))) := rfl
theorem v_var {Γ : Gam} {i : Nat} {ρ : Env'} {Q : Tv → Env' → Prop} : simV Γ (.var i) ρ Q = onW (ρ[i]?).join i ρ Q := by
  unfold simV onW
  simp only [sv] <;> (generalize (ρ[i]?).join = o; match o with
    | none => rfl
    | some (.d _) => rfl
    | some (.own _) => rfl
    | some (.scr _) => rfl)
theorem v_any {Γ : Gam} {s : SE} {ρ : Env'} {Q : Tv → Env' → Prop} (h : s.var? = none) : simV Γ s ρ Q = onV (sv Γ ρ s) fun x => Q x ρ := by
  unfold simV onV
  cases e : sv Γ ρ s with
  | none => rfl
  | some x =>
    cases x with
    | d x => rfl
    | scr ns => rfl
    | own xs => cases s <;> first | rfl | cases h
theorem v_int {Γ : Gam} {n : Int} {ρ : Env'} {Q : Tv → Env' → Prop} : simV Γ (.int n) ρ Q = Q (.d (.int n)) ρ := rfl
theorem v_str {Γ : Gam} {n : Str} {ρ : Env'} {Q : Tv → Env' → Prop} : simV Γ (.str n) ρ Q = Q (.d (.str n)) ρ := rfl
theorem v_bl {Γ : Gam} {n : Bool} {ρ : Env'} {Q : Tv → Env' → Prop} : simV Γ (.bl n) ρ Q = Q (.d (.bool n)) ρ := rfl
theorem v_non {Γ : Gam} {ρ : Env'} {Q : Tv → Env' → Prop} : simV Γ .non ρ Q = Q (.d .none) ρ := rfl
theorem v_glob {Γ : Gam} {x : Str} {ρ : Env'} {Q : Tv → Env' → Prop} : simV Γ (.glob x) ρ Q = onV (sv Γ ρ (.glob x)) fun x => Q x ρ := v_any rfl
theorem v_add {Γ : Gam} {a b : SE} {ρ : Env'} {Q : Tv → Env' → Prop} : simV Γ (.add a b) ρ Q = onV (sv Γ ρ (.add a b)) fun x => Q x ρ := v_any rfl
theorem v_sub {Γ : Gam} {a b : SE} {ρ : Env'} {Q : Tv → Env' → Prop} : simV Γ (.sub a b) ρ Q = onV (sv Γ ρ (.sub a b)) fun x => Q x ρ := v_any rfl
theorem v_neg {Γ : Gam} {a : SE} {ρ : Env'} {Q : Tv → Env' → Prop} : simV Γ (.neg a) ρ Q = onV (sv Γ ρ (.neg a)) fun x => Q x ρ := v_any rfl
theorem v_idx {Γ : Gam} {a b : SE} {ρ : Env'} {Q : Tv → Env' → Prop} : simV Γ (.idx a b) ρ Q = onV (sv Γ ρ (.idx a b)) fun x => Q x ρ := v_any rfl
theorem v_len {Γ : Gam} {a : SE} {ρ : Env'} {Q : Tv → Env' → Prop} : simV Γ (.len a) ρ Q = onV (sv Γ ρ (.len a)) fun x => Q x ρ := v_any rfl
def wForL (tg : Tg) (items : List PyData) (wb : WS) (er : List Nat) (D : DE) (ρ1 : Env') : Prop := ∃ I : Nat → Env' → Prop, I 0 ρ1 ∧
  (∀ k x ρ2, items[k]? = some x → I k ρ2 → wTg tg x ρ2 fun ρ3 => wb { nx := fun ρ4 => I (k + 1) (wipeR ρ4 er), ct := fun ρ4 => I (k + 1) (wipeR ρ4 er), bk := fun ρ4 => D.nx (wipeR ρ4 er), rt := D.rt } ρ3) ∧
  ∀ ρ2, I items.length ρ2 → D.nx ρ2
def wWhileL (wc : WE) (wb : WS) (er : List Nat) (D : DE) (ρ : Env') : Prop := ∃ (I : Env' → Prop) (μ : Env' → Nat), I ρ ∧ ∀ ρ1, I ρ1 → wc ρ1 fun x ρ2 => ∃ k, x = .d (.bool k) ∧
  (k = true → wb { nx := fun ρ4 => I (wipeR ρ4 er) ∧ μ (wipeR ρ4 er) < μ ρ1, ct := fun ρ4 => I (wipeR ρ4 er) ∧ μ (wipeR ρ4 er) < μ ρ1, bk := fun ρ4 => D.nx (wipeR ρ4 er), rt := D.rt } ρ2) ∧ (k = false → D.nx ρ2)
def wLcL (tg : Tg) (items : List PyData) (wc : Env' → (Bool → Env' → Prop) → Prop) (we : WE) (vs : List Nat) (ρ1 : Env') (Q : Tv → Env' → Prop) : Prop := ∃ I : Nat → List Tv → Env' → Prop, I 0 [] (wipeR ρ1 vs) ∧
  (∀ k x acc ρ2, items[k]? = some x → I k acc ρ2 → wTg tg x ρ2 fun ρ3 => wc ρ3 fun b ρ4 =>
    (b = true → we ρ4 fun y ρ5 => acc.length < sizeLine ∧ I (k + 1) (acc ++ [y]) (wipeR ρ5 vs)) ∧ (b = false → I (k + 1) acc (wipeR ρ4 vs))) ∧
  ∀ acc ρ2, I items.length acc ρ2 → Q (.own acc) (restR ρ1 ρ2 vs)
/-- a test and what follows -/
def wIfL (k : Bool) (A B : Prop) : Prop := (k = true → A) ∧ (k = false → B)
section
variable {Γ : Gam} {Φ : Phi} {D : DE} {ρ : Env'} {Q : Tv → Env' → Prop}
theorem r_nil : wSL Γ Φ .nil D ρ = D.nx ρ := rfl
theorem r_cons {s : S} {ss : SL} : wSL Γ Φ (.cons s ss) D ρ = wS Γ Φ s { D with nx := fun ρ1 => wSL Γ Φ ss D ρ1 } ρ := rfl
theorem r_set {i : Nat} {e : E} : wS Γ Φ (.set i e) D ρ = wE Γ Φ e ρ fun x ρ1 => i < ρ1.length ∧ D.nx (ρ1.set i (some x)) := rfl
theorem r_unp {tg : Tg} {e : E} : wS Γ Φ (.unp tg e) D ρ = wE Γ Φ e ρ fun x ρ1 => ∃ d, x.frz = some d ∧ wTg tg d ρ1 D.nx := rfl
theorem r_par {is : List Nat} {es : EL} : wS Γ Φ (.par is es) D ρ = wEs Γ Φ es ρ fun xs ρ1 => xs.length = is.length ∧ is.Nodup ∧ (∀ i ∈ is, i < ρ1.length) ∧ D.nx ((is.zip xs).foldl (fun r p => r.set p.1 (some p.2)) ρ1) := rfl
theorem r_ix1 {i : Nat} {k : SE} {e : E} : wS Γ Φ (.ix1 i k e) D ρ = wE Γ Φ e ρ fun y ρ1 => ∃ ts n j, ρ1[i]? = some (some (.own ts)) ∧ sv Γ ρ1 k = some (.d (.int n)) ∧ ixN ts.length n = some j ∧ D.nx (ρ1.set i (some (.own (ts.set j y)))) := rfl
theorem r_ixe {i : Nat} {a e : E} : wS Γ Φ (.ixe i a e) D ρ = wE Γ Φ e ρ fun y ρ1 => ∃ d, y = .d d ∧ (∃ ts, ρ1[i]? = some (some (.own ts))) ∧ wE Γ Φ a ρ1 fun z ρ2 => ∃ n ts j, z = .d (.int n) ∧ ρ2[i]? = some (some (.own ts)) ∧ ixN ts.length n = some j ∧ D.nx (ρ2.set i (some (.own (ts.set j (.d d))))) := rfl
theorem r_ixp {i : Nat} {k1 k2 : SE} {es : EL} : wS Γ Φ (.ixp i k1 k2 es) D ρ = wEs Γ Φ es ρ fun xs ρ1 => ∃ y1 y2 ts n1 j1 n2 j2, xs = [.d y1, .d y2] ∧ ρ1[i]? = some (some (.own ts)) ∧ sv Γ ρ1 k1 = some (.d (.int n1)) ∧ ixN ts.length n1 = some j1 ∧
      sv Γ (ρ1.set i (some (.own (ts.set j1 (.d y1))))) k2 = some (.d (.int n2)) ∧ ixN ts.length n2 = some j2 ∧ D.nx (ρ1.set i (some (.own ((ts.set j1 (.d y1)).set j2 (.d y2))))) := rfl
theorem r_ix2 {i : Nat} {k1 k : SE} {e : E} : wS Γ Φ (.ix2 i k1 k e) D ρ = wE Γ Φ e ρ fun y ρ1 => ∃ ts n1 j1 us n j, ρ1[i]? = some (some (.own ts)) ∧ sv Γ ρ1 k1 = some (.d (.int n1)) ∧ ixN ts.length n1 = some j1 ∧ ts[j1]? = some (.own us) ∧
      sv Γ ρ1 k = some (.d (.int n)) ∧ ixN us.length n = some j ∧ D.nx (ρ1.set i (some (.own (ts.set j1 (.own (us.set j y)))))) := rfl
theorem r_app {i : Nat} {e : E} : wS Γ Φ (.app i e) D ρ = ((∃ ts, ρ[i]? = some (some (.own ts))) ∧ wE Γ Φ e ρ fun y ρ1 => ∃ ts, ρ1[i]? = some (some (.own ts)) ∧ ts.length < sizeLine ∧ D.nx (ρ1.set i (some (.own (ts ++ [y]))))) := rfl
theorem r_ext {i : Nat} {e : E} : wS Γ Φ (.ext i e) D ρ = ((∃ ts, ρ[i]? = some (some (.own ts))) ∧ wE Γ Φ e ρ fun y ρ1 => ∃ ts xs, ρ1[i]? = some (some (.own ts)) ∧ y.frz = some (.list xs) ∧ ts.length + xs.length ≤ sizeLine ∧ D.nx (ρ1.set i (some (.own (ts ++ xs.map .d))))) := rfl
theorem r_expr {e : E} : wS Γ Φ (.expr e) D ρ = wE Γ Φ e ρ fun _ ρ1 => D.nx ρ1 := rfl
theorem r_ret {e : E} : wS Γ Φ (.ret e) D ρ = wE Γ Φ e ρ fun x ρ1 => D.rt x ρ1 := rfl
theorem r_retv {i : Nat} : wS Γ Φ (.retv i) D ρ = ∃ x, ρ[i]? = some (some x) ∧ D.rt x (ρ.set i none) := rfl
theorem r_retN : wS Γ Φ .retN D ρ = D.rt (.d .none) ρ := rfl
theorem r_if {c : E} {a b : SL} : wS Γ Φ (.ite c a b) D ρ = wE Γ Φ c ρ fun x ρ1 => ∃ k, x = .d (.bool k) ∧ wIfL k (wSL Γ Φ a D ρ1) (wSL Γ Φ b D ρ1) := rfl
theorem r_for {tg : Tg} {it : It} {body : SL} {er : List Nat} : wS Γ Φ (.for_ tg it body er) D ρ = wI Γ Φ it ρ fun items ρ1 => wForL tg items (wSL Γ Φ body) er D ρ1 := rfl
theorem r_while {c : E} {body : SL} {er : List Nat} : wS Γ Φ (.while_ c body er) D ρ = wWhileL (wE Γ Φ c) (wSL Γ Φ body) er D ρ := rfl
theorem r_pass : wS Γ Φ .pass D ρ = D.nx ρ := rfl
theorem r_brk : wS Γ Φ .brk D ρ = D.bk ρ := rfl
theorem r_cont : wS Γ Φ .cont D ρ = D.ct ρ := rfl
theorem q_sim {s : SE} : wE Γ Φ (.sim s) ρ Q = simV Γ s ρ Q := rfl
theorem q_bin {o : BO} {a b : E} : wE Γ Φ (.bin o a b) ρ Q = wE Γ Φ a ρ fun x ρ1 => wE Γ Φ b ρ1 fun y ρ2 => opB o x y fun z => Q z ρ2 := rfl
theorem q_neg {a : E} : wE Γ Φ (.neg a) ρ Q = wE Γ Φ a ρ fun x ρ1 => ∃ i, x = .d (.int i) ∧ Q (.d (.int (-i))) ρ1 := rfl
theorem q_cmp {o : CO} {a b : E} : wE Γ Φ (.cmp o a b) ρ Q = (match a.var? with
    | some i => (∃ x, ρ[i]? = some (some x)) ∧ (match b.sim? with
      | some s => simR Γ s
      | none => wE Γ Φ b) ρ fun y ρ2 => ∃ x, ρ2[i]? = some (some x) ∧ cmpO o x y fun k => Q (.d (.bool k)) ρ2
    | none => wE Γ Φ a ρ fun x ρ1 => (match b.sim? with
      | some s => simR Γ s
      | none => wE Γ Φ b) ρ1 fun y ρ2 => cmpO o x y fun k => Q (.d (.bool k)) ρ2) := rfl
theorem q_isN {a : E} : wE Γ Φ (.isN a) ρ Q = (match a.sim? with
      | some s => simR Γ s
      | none => wE Γ Φ a) ρ fun x ρ1 => frzT x fun d => Q (.d (.bool (isNonD d))) ρ1 := rfl
theorem q_notN {a : E} : wE Γ Φ (.notN a) ρ Q = (match a.sim? with
      | some s => simR Γ s
      | none => wE Γ Φ a) ρ fun x ρ1 => frzT x fun d => Q (.d (.bool (!isNonD d))) ρ1 := rfl
theorem q_chain {o o' : CO} {a b c : E} : wE Γ Φ (.chain o o' a b c) ρ Q = wE Γ Φ a ρ fun x ρ1 => wE Γ Φ b ρ1 fun y ρ2 => cmpO o x y fun k => wIfL k (wE Γ Φ c ρ2 fun z ρ3 => cmpO o' y z fun l => Q (.d (.bool l)) ρ3) (Q (.d (.bool false)) ρ2) := rfl
theorem q_and {es : EL} : wE Γ Φ (.and_ es) ρ Q = wAnd Γ Φ es ρ Q := rfl
theorem q_or {es : EL} : wE Γ Φ (.or_ es) ρ Q = wOr Γ Φ es ρ Q := rfl
theorem q_and1 {e : E} : wAnd Γ Φ (.cons e .nil) ρ Q = wE Γ Φ e ρ fun x ρ1 => ∃ b, x = .d (.bool b) ∧ Q (.d (.bool b)) ρ1 := rfl
theorem q_and2 {e e2 : E} {es : EL} : wAnd Γ Φ (.cons e (.cons e2 es)) ρ Q = wE Γ Φ e ρ fun x ρ1 => ∃ b, x = .d (.bool b) ∧ wIfL b (wAnd Γ Φ (.cons e2 es) ρ1 Q) (Q (.d (.bool false)) ρ1) := rfl
theorem q_or1 {e : E} : wOr Γ Φ (.cons e .nil) ρ Q = wE Γ Φ e ρ fun x ρ1 => ∃ b, x = .d (.bool b) ∧ Q (.d (.bool b)) ρ1 := rfl
theorem q_or2 {e e2 : E} {es : EL} : wOr Γ Φ (.cons e (.cons e2 es)) ρ Q = wE Γ Φ e ρ fun x ρ1 => ∃ b, x = .d (.bool b) ∧ wIfL b (Q (.d (.bool true)) ρ1) (wOr Γ Φ (.cons e2 es) ρ1 Q) := rfl
theorem q_not {a : E} : wE Γ Φ (.not_ a) ρ Q = wE Γ Φ a ρ fun x ρ1 => ∃ b, x = .d (.bool b) ∧ Q (.d (.bool (!b))) ρ1 := rfl
theorem q_ite {c a b : E} : wE Γ Φ (.ite c a b) ρ Q = wE Γ Φ c ρ fun x ρ1 => ∃ k, x = .d (.bool k) ∧ wIfL k (wE Γ Φ a ρ1 Q) (wE Γ Φ b ρ1 Q) := rfl
theorem q_tup {es : EL} : wE Γ Φ (.tup es) ρ Q = wEs Γ Φ es ρ fun xs ρ1 => ∃ ds, frzs xs = some ds ∧ Q (.d (.tuple ds)) ρ1 := rfl
theorem q_lst {es : EL} : wE Γ Φ (.lst es) ρ Q = wEs Γ Φ es ρ fun xs ρ1 => Q (.own xs) ρ1 := rfl
theorem q_idx {a b : E} : wE Γ Φ (.idx a b) ρ Q = wE Γ Φ a ρ fun x ρ1 => wE Γ Φ b ρ1 fun y ρ2 => ∃ k z, y = .d (.int k) ∧ x.item k = some (.d z) ∧ Q (.d z) ρ2 := rfl
theorem q_slice {a : E} {lo hi : OE} : wE Γ Φ (.slice a lo hi) ρ Q = wE Γ Φ a ρ fun x ρ1 => wO Γ Φ lo ρ1 fun l ρ2 => wO Γ Φ hi ρ2 fun h ρ3 => sliceO x l h fun z => Q z ρ3 := rfl
theorem q_rev {a : E} : wE Γ Φ (.rev a) ρ Q = wE Γ Φ a ρ fun x ρ1 => revO x fun z => Q z ρ1 := rfl
theorem q_blt1 {b : Bn} {e : E} : wE Γ Φ (.blt1 b e) ρ Q = wE Γ Φ e ρ fun x ρ1 => bltO b [x] fun z => Q z ρ1 := rfl
theorem q_bltv {b : Bn} {e : E} : wE Γ Φ (.bltv b e) ρ Q = (match e.sim? with
      | some s => simR Γ s
      | none => wE Γ Φ e) ρ fun x ρ1 => bltO b [x] fun z => Q z ρ1 := rfl
theorem q_blt2 {b : Bn} {e e2 : E} : wE Γ Φ (.blt2 b e e2) ρ Q = wE Γ Φ e ρ fun x ρ1 => wE Γ Φ e2 ρ1 fun y ρ2 => bltO b [x, y] fun z => Q z ρ2 := rfl
theorem q_sortset {a : E} : wE Γ Φ (.sortset a) ρ Q = (match a.sim? with
      | some s => simR Γ s
      | none => wE Γ Φ a) ρ fun x ρ1 => ∃ d xs ns, x.frz = some d ∧ PyData.itemsOf d = some xs ∧ intsOf xs = some ns ∧ ns.length < 64 ∧ ∀ ms, isSortSet ns ms → Q (.own (ms.map fun n => .d (.int n))) ρ1 := rfl
theorem q_lrng {t : Bool} {a : OE} {b : E} : wE Γ Φ (.lrng t a b) ρ Q = wO Γ Φ a ρ fun lo ρ1 => wE Γ Φ b ρ1 fun y ρ2 => ∃ j, y = .d (.int j) ∧ -(2 ^ 62) ≤ lo.getD 0 ∧ lo.getD 0 < 2 ^ 62 ∧ -(2 ^ 62) ≤ j ∧ j < 2 ^ 62 ∧ (j - lo.getD 0).toNat ≤ 2 ^ 24 ∧
      Q (if t then .d (.tuple ((List.range (j - lo.getD 0).toNat).map fun (k : Nat) => .int (lo.getD 0 + k))) else .own ((List.range (j - lo.getD 0).toNat).map fun (k : Nat) => .d (.int (lo.getD 0 + k)))) ρ2 := rfl
theorem q_lc {elt : E} {tg : Tg} {it : It} {c : OE} {vs : List Nat} : wE Γ Φ (.lc elt tg it c vs) ρ Q = wI Γ Φ it ρ fun items ρ1 => wLcL tg items (wC Γ Φ c) (wE Γ Φ elt) vs ρ1 Q := rfl
theorem q_index {a b : E} : wE Γ Φ (.index a b) ρ Q = wE Γ Φ a ρ fun x ρ1 => ∃ ns : List Int, x = .d (.tuple (ns.map .int)) ∧ wE Γ Φ b ρ1 fun y ρ2 => ∃ k : Int, y = .d (.int k) ∧ k ∈ ns ∧ Q (.d (.int (ns.idxOf k : Nat))) ρ2 := rfl
theorem q_pop {i : Nat} {a : E} : wE Γ Φ (.pop i a) ρ Q = ((∃ ts, ρ[i]? = some (some (.own ts))) ∧ wE Γ Φ a ρ fun y ρ1 => ∃ ts k x, y = .d (.int k) ∧ ρ1[i]? = some (some (.own ts)) ∧ 0 ≤ k ∧ k < 2 ^ 63 ∧ ts[k.toNat]? = some x ∧ Q x (ρ1.set i (some (.own (ts.eraseIdx k.toNat))))) := rfl
theorem q_call {f : Str} {es : EL} {fe : FE} (h : Φ f = some fe) (ho : fe.ow = none) : wE Γ Φ (.call f es) ρ Q = wEs Γ Φ es ρ fun xs ρ1 => ∃ as, argTs xs = some as ∧ fe.fs as fun z _ => Q z ρ1 := by
  rw [wE]
  simp only [h, Option.some.injEq, exists_eq_left', ho]
theorem q_callO {f : Str} {e : E} {es : EL} {fe : FE} (h : Φ f = some fe) (ho : fe.ow = some 0) : wE Γ Φ (.call f (.cons e es)) ρ Q = ∃ i, e.var? = some i ∧ (∃ x, ρ[i]? = some (some x)) ∧ wEs Γ Φ es ρ fun xs ρ1 => ∃ as ts, argTs xs = some as ∧ ρ1[i]? = some (some (.own ts)) ∧
          fe.fs (.own ts :: as) fun z news => ∃ x', news[0]? = some (some x') ∧ Q z (ρ1.set i (some x')) := by
  rw [wE]
  simp only [h, Option.some.injEq, exists_eq_left', ho]
theorem q_callK {f : Str} {ks : List Str} {es : EL} {fe : FE} (h : Φ f = some fe) (ho : fe.ow = none) : wE Γ Φ (.callK f ks es) ρ Q = (ks ∈ fe.kw ∧ wEs Γ Φ es ρ fun xs ρ1 => ∃ as bs, argTs xs = some as ∧ kperm ks as fe.ps = some bs ∧ fe.fs bs fun z _ => Q z ρ1) := by
  rw [wE]
  simp only [h, Option.some.injEq, exists_eq_left', ho, true_and]
theorem q_callL {f : Str} {ss : List SE} {fe : FE} (h : Φ f = some fe) (ho : fe.ow = none) : wE Γ Φ (.callL f ss) ρ Q = ∃ xs as, svs Γ ρ ss = some xs ∧ argTs xs = some as ∧ fe.fs as fun z _ => scalT z = true ∧ Q z ρ := by
  rw [wE]
  simp only [h, Option.some.injEq, exists_and_left, exists_eq_left', ho, true_and]
theorem q_es0 {R : List Tv → Env' → Prop} : wEs Γ Φ .nil ρ R = R [] ρ := rfl
theorem q_es1 {e : E} {es : EL} {R : List Tv → Env' → Prop} : wEs Γ Φ (.cons e es) ρ R = wE Γ Φ e ρ fun x ρ1 => wEs Γ Φ es ρ1 fun xs ρ2 => R (x :: xs) ρ2 := rfl
theorem q_o0 {R : Option Int → Env' → Prop} : wO Γ Φ .non ρ R = R none ρ := rfl
theorem q_o1 {e : E} {R : Option Int → Env' → Prop} : wO Γ Φ (.som e) ρ R = wE Γ Φ e ρ fun x ρ1 => ∃ k, x = .d (.int k) ∧ R (some k) ρ1 := rfl
theorem q_c0 {R : Bool → Env' → Prop} : wC Γ Φ .non ρ R = R true ρ := rfl
theorem q_c1 {e : E} {R : Bool → Env' → Prop} : wC Γ Φ (.som e) ρ R = wE Γ Φ e ρ fun x ρ1 => ∃ k, x = .d (.bool k) ∧ R k ρ1 := rfl
theorem q_seq {a : E} {R : List PyData → Env' → Prop} : wI Γ Φ (.seq a) ρ R = wE Γ Φ a ρ fun x ρ1 => ∃ d xs, x.frz = some d ∧ PyData.itemsOf d = some xs ∧ R xs ρ1 := rfl
theorem q_rng {a : OE} {b : E} {R : List PyData → Env' → Prop} : wI Γ Φ (.rng a b) ρ R = wO Γ Φ a ρ fun lo ρ1 => wE Γ Φ b ρ1 fun y ρ2 => ∃ j, y = .d (.int j) ∧ -(2 ^ 62) ≤ lo.getD 0 ∧ lo.getD 0 < 2 ^ 62 ∧ -(2 ^ 62) ≤ j ∧ j < 2 ^ 62 ∧
      R ((List.range (j - lo.getD 0).toNat).map fun (k : Nat) => .int (lo.getD 0 + k)) ρ2 := rfl
theorem q_enum {a : E} {R : List PyData → Env' → Prop} : wI Γ Φ (.enum a) ρ R = wE Γ Φ a ρ fun x ρ1 => ∃ d xs, x.frz = some d ∧ PyData.itemsOf d = some xs ∧ R (xs.mapIdx fun k x => .tuple [.int k, x]) ρ1 := rfl
theorem q_zip {a b : E} {R : List PyData → Env' → Prop} : wI Γ Φ (.zip a b) ρ R = wE Γ Φ a ρ fun x ρ1 => wE Γ Φ b ρ1 fun y ρ2 => ∃ d e xs ys, x.frz = some d ∧ y.frz = some e ∧ PyData.itemsOf d = some xs ∧ PyData.itemsOf e = some ys ∧
      R (List.zipWith (fun p q => .tuple [p, q]) xs ys) ρ2 := rfl
theorem g_name {i : Nat} {x : PyData} {R : Env' → Prop} : wTg (.name i) x ρ R = (i < ρ.length ∧ R (ρ.set i (some (.d x)))) := rfl
theorem g_tup {ts : TgL} {x : PyData} {R : Env' → Prop} : wTg (.tup ts) x ρ R = ∃ xs, PyData.itemsOf x = some xs ∧ wTgs ts xs ρ R := rfl
theorem g_t0 {xs : List PyData} {R : Env' → Prop} : wTgs .nil xs ρ R = (xs = [] ∧ R ρ) := rfl
theorem g_t1 {t : Tg} {ts : TgL} {xs : List PyData} {R : Env' → Prop} : wTgs (.cons t ts) xs ρ R = ∃ y ys, xs = y :: ys ∧ wTg t y ρ fun ρ1 => wTgs ts ys ρ1 R := rfl
theorem o_add {i j : Int} {R : Tv → Prop} : opB .add (.d (.int i)) (.d (.int j)) R = R (.d (.int (i + j))) := rfl
theorem o_sub {i j : Int} {R : Tv → Prop} : opB .sub (.d (.int i)) (.d (.int j)) R = R (.d (.int (i - j))) := rfl
theorem o_mul {i j : Int} {R : Tv → Prop} : opB .mul (.d (.int i)) (.d (.int j)) R = ((CMul i j ∨ CMulW i j) ∧ R (.d (.int (i * j)))) := rfl
theorem o_fdiv {i j : Int} {R : Tv → Prop} : opB .fdiv (.d (.int i)) (.d (.int j)) R = (CDivW i j ∧ R (.d (.int (i / j)))) := rfl
theorem o_mod {i j : Int} {R : Tv → Prop} : opB .mod (.d (.int i)) (.d (.int j)) R = (0 < j ∧ R (.d (.int (i % j)))) := rfl
theorem o_pow {i j : Int} {R : Tv → Prop} : opB .pow (.d (.int i)) (.d (.int j)) R = (CPow i j ∧ R (.d (.int (i ^ j.toNat)))) := rfl
theorem f_d {x : PyData} : (Tv.d x).frz = some x := rfl
theorem f_nil : (Tv.own []).frz = some (.list []) := rfl
theorem c_lt {i j : Int} {R : Bool → Prop} : cmpO .lt (.d (.int i)) (.d (.int j)) R = R (decide (i < j)) := by
  refine propext ⟨fun ⟨a, b, h1, h2, h⟩ => ?_, fun h => ⟨_, _, rfl, rfl, h⟩⟩
  cases h1; cases h2; exact h
theorem c_le {i j : Int} {R : Bool → Prop} : cmpO .le (.d (.int i)) (.d (.int j)) R = R (decide (i ≤ j)) := by
  refine propext ⟨fun ⟨a, b, h1, h2, h⟩ => ?_, fun h => ⟨_, _, rfl, rfl, h⟩⟩
  cases h1; cases h2; exact h
theorem c_gt {i j : Int} {R : Bool → Prop} : cmpO .gt (.d (.int i)) (.d (.int j)) R = R (decide (j < i)) := by
  refine propext ⟨fun ⟨a, b, h1, h2, h⟩ => ?_, fun h => ⟨_, _, rfl, rfl, h⟩⟩
  cases h1; cases h2; exact h
theorem c_ge {i j : Int} {R : Bool → Prop} : cmpO .ge (.d (.int i)) (.d (.int j)) R = R (decide (j ≤ i)) := by
  refine propext ⟨fun ⟨a, b, h1, h2, h⟩ => ?_, fun h => ⟨_, _, rfl, rfl, h⟩⟩
  cases h1; cases h2; exact h
theorem c_eq {i j : Int} {R : Bool → Prop} : cmpO .eq (.d (.int i)) (.d (.int j)) R = R (i == j) := by
  refine propext ⟨fun ⟨a, b, h1, h2, h⟩ => ?_, fun h => ⟨_, _, rfl, rfl, rfl, rfl, h⟩⟩
  cases h1; cases h2; exact h.2.2
theorem c_ne {i j : Int} {R : Bool → Prop} : cmpO .ne (.d (.int i)) (.d (.int j)) R = R (!(i == j)) := by
  refine propext ⟨fun ⟨a, b, h1, h2, h⟩ => ?_, fun h => ⟨_, _, rfl, rfl, rfl, rfl, h⟩⟩
  cases h1; cases h2; exact h.2.2
theorem if_l {k : Bool} {A B : Prop} (h1 : k = true → A) (h2 : k = false → B) : wIfL k A B := ⟨h1, h2⟩
theorem if_tt {A B : Prop} : wIfL true A B = A := propext ⟨fun h => h.1 rfl, fun h => ⟨fun _ => h, fun z => nomatch z⟩⟩
theorem if_ff {A B : Prop} : wIfL false A B = B := propext ⟨fun h => h.2 rfl, fun h => ⟨fun z => (nomatch z), fun _ => h⟩⟩
theorem at0 {α : Type} {x : α} {xs : List α} : atI (x :: xs) 0 = some x := by simp [atI, ixN]
theorem at1 {α : Type} {x y : α} {xs : List α} : atI (x :: y :: xs) 1 = some y := atI_nat (j := 1) rfl
theorem at2 {α : Type} {x y z : α} {xs : List α} : atI (x :: y :: z :: xs) 2 = some z := atI_nat (j := 2) rfl
theorem ix_n {n i : Nat} (h : i < n) : ixN n (i : Int) = some i := by
  unfold ixN
  rw [if_pos (by omega), if_pos (by omega)]
  simp
theorem ix0 {n : Nat} : ixN (n + 1) 0 = some 0 := ix_n (i := 0) (by omega)
theorem ix1 {n : Nat} : ixN (n + 2) 1 = some 1 := ix_n (i := 1) (by omega)
theorem ix2 {n : Nat} : ixN (n + 3) 2 = some 2 := ix_n (i := 2) (by omega)
end
/-! ### the deck of three numbers -/
def deck (a b c : Int) : Tv := .own [.d (.int a), .d (.int b), .d (.int c)]
end Tr
set_option Elab.async false
set_option linter.all false
set_option maxRecDepth 100000
set_option maxHeartbeats 4000000
/-! The tree layer, part 21: the defs of a text gathered. -/
namespace Tr
open PySem PySem.Spec PyProof.Rows L2
/-- a def of the text that may be called -/
structure Has (P : Program) (w : World) (K : PySem.W.Frag) (mg : Str → Option Value) (base : Heap) (k : Nat) (f : Str) (fe : FE) : Prop where
  ex : ∃ addr fd, mg f = some (.ref addr) ∧ PySem.W.keepIn K (.ref addr) = true ∧ GnOk P w K mg base k addr fd fe.ps (liftF K fe.ow fe.fs) ∧ Binds K fd fe.ps [] ∧ ∀ ks ∈ fe.kw, BK fd fe.ps ks
section
variable {P : Program} {w : World} {K : PySem.W.Frag} {mg : Str → Option Value} {base : Heap}
theorem Has.mono {j k : Nat} {f : Str} {fe : FE} (h : Has P w K mg base j f fe) (l : j ≤ k) : Has P w K mg base k f fe := by
  obtain ⟨addr, fd, h1, h2, h3, h4⟩ := h.ex
  exact ⟨addr, fd, h1, h2, h3.mono l, h4⟩
def HasAll (P : Program) (w : World) (K : PySem.W.Frag) (mg : Str → Option Value) (base : Heap) (k : Nat) : List (Str × FE) → Prop
  | [] => True
  | p :: l => Has P w K mg base k p.1 p.2 ∧ HasAll P w K mg base k l
theorem HasAll.at {k : Nat} : ∀ {l : List (Str × FE)} {f : Str} {fe : FE}, HasAll P w K mg base k l → l.lookup f = some fe → Has P w K mg base k f fe
  | [], _, _, _, e => by cases e
  | (x, y) :: l, f, fe, h, e => by
    rw [List.lookup_cons] at e
    split at e
    · rename_i q
      cases e
      have q : f = x := by simpa using q
      rw [q]
      exact h.1
    · exact HasAll.at h.2 e
def phiOf (l : List (Str × FE)) : Phi := fun f => l.lookup f
theorem HasAll.gdm {Γ : Gam} {k : Nat} {l : List (Str × FE)} (h : HasAll P w K mg base k l) (bl : ∀ x ∈ bnames, mg x = none) (gl : ∀ x d, Γ x = some d → ∃ u v, mg x = some u ∧ RelV v u ∧ ∀ G, Dq G v d) : GdM Γ (phiOf l) k P w K mg base :=
  ⟨bl, gl, fun f fe e => (h.at e).ex⟩
theorem has_def {Γ : Gam} {Φ : Phi} {k : Nat} {x : Str} {st : Stmt} {f : Addr} {fd : FuncData} {N ps : List Str} {b : SL} {ow : Option Nat} {kws : List (List Str)} {sp : FS}
    (M : GdM Γ Φ k P w K mg base) (F : Fun K x x st f fd) (S : FnScope N ps (defScope st)) (hb : okSL N (defScope st) ow b (defBody st) = true) (how : ∀ i, ow = some i → i < ps.length)
    (hsp : ∀ xs Q, sp xs Q → fsOf Γ Φ ps.length N.length b xs Q) (hm : mg x = some (.ref f)) (hbd : Binds K fd ps []) (hkw : ∀ ks ∈ kws, BK fd ps ks) : Has P w K mg base (k + 1) x ⟨ps, kws, ow, sp⟩ :=
  ⟨f, fd, hm, F.kp, fn_ok M F S hb how hsp, hbd, hkw⟩
/-- how keywords bind, of a def without defaults -/
theorem fun_bk {x qual : Str} {st : Stmt} {f : Addr} {fd : FuncData} {ps ks : List Str} (F : Fun K x qual st f fd)
    (h : ∀ (kV doc pm : Value) (an : Option Addr) (cdv ct : Value) (ws as : List Value), ks.length = ws.length → kperm ks ws ps = some as →
      bindArgs (PySem.W.fnOf x qual (defArgs st) (defBody st) (defScope st) .none kV doc pm an cdv ct) ⟨[], ks.zip ws⟩ = pure (ps.zip as)) : BK fd ps ks := by
  obtain ⟨oc, od, kV, doc, pm, an, cdv, ct, osl, rfl, lk, hcd⟩ := F.ex
  exact fun s ws as hl hk => .of_eq (h kV doc pm an cdv ct ws as hl hk)
def isNone2 : Option (Option Value) → Bool
  | some none => true
  | _ => false
theorem blt_of {h : Heap} (X : K.In h) (G : h.Ns mainGlobals mg) (z : (bnames.all fun x => isNone2 (PySem.W.nsIn K mainGlobals x)) = true) : ∀ x ∈ bnames, mg x = none := fun x hx => by
  have q := List.all_eq_true.mp z x hx
  refine PySem.W.mg_none_of X G ?_
  generalize PySem.W.nsIn K mainGlobals x = o at q
  match o, q with
  | some none, _ => rfl
end
end Tr
set_option Elab.async false
set_option linter.all false
set_option maxRecDepth 100000
set_option maxHeartbeats 4000000
set_option exponentiation.threshold 3000
namespace Tr
open PySem PySem.Spec PyProof.Rows L2
theorem b_int {i : Int} {R : Tv → Prop} : bltO .int [.d (.int i)] R = R (.d (.int i)) := by
  refine propext ⟨fun ⟨d, j, h1, h2, h⟩ => ?_, fun h => ⟨_, _, rfl, rfl, h⟩⟩
  cases h1; cases h2; exact h
theorem b_intb {i : Bool} {R : Tv → Prop} : bltO .int [.d (.bool i)] R = R (.d (.int (if i then 1 else 0))) := by
  refine propext ⟨fun ⟨d, j, h1, h2, h⟩ => ?_, fun h => ⟨_, _, rfl, rfl, h⟩⟩
  cases h1; cases h2; exact h
theorem b_abs {i : Int} {R : Tv → Prop} : bltO .abs [.d (.int i)] R = R (.d (.int (if i < 0 then -i else i))) := by
  refine propext ⟨fun ⟨d, h1, h⟩ => ?_, fun h => ⟨_, rfl, h⟩⟩
  cases h1; exact h
theorem frzs_map : ∀ ds : List PyData, frzs (ds.map Tv.d) = some ds
  | [] => rfl
  | d :: ds => by
    show frzs (.d d :: ds.map Tv.d) = _
    rw [frzs, frzs_map ds]
    rfl
theorem f_own {ds : List PyData} : (Tv.own (ds.map Tv.d)).frz = some (.list ds) := by rw [Tv.frz, frzs_map]
theorem s_scr {ns : List Int} {lo hi : Option Int} {R : Tv → Prop} : sliceO (.scr ns) lo hi R = R (.own (((cutD ns lo hi).map PyData.int).map Tv.d)) := by
  show R _ = R _
  rw [List.map_map]
  rfl
theorem m_small {i j : Int} (h1 : -(2 ^ 64) < j) (h2 : j < 2 ^ 64) : CMul i j ∨ CMulW i j := .inl (.inr ⟨h1, h2⟩)
theorem m_small' {i j : Int} (h1 : -(2 ^ 64) < i) (h2 : i < 2 ^ 64) : CMul i j ∨ CMulW i j := .inl (.inl ⟨h1, h2⟩)
/-! ### the deck of three numbers -/
def bTake3 : SL := (.cons (.ite (.cmp .gt (.sim (.idx (.var 0) (.int 0))) (.sim (.int 0)))
  (.cons (.set 3 (.bin .mod (.bltv .int (.sim (.idx (.var 0) (.int 0)))) (.sim (.var 1))))
  (.cons (.ix1 0 (.int 0) (.bin .fdiv (.sim (.idx (.var 0) (.int 0))) (.sim (.var 1))))
  (.cons (.retv 3)
  .nil)))
  .nil)
  (.cons (.ix1 0 (.int 2) (.bin .add (.sim (.idx (.var 0) (.int 2))) (.sim (.int 1))))
  (.cons (.set 2 (.bin .add (.bin .add (.bin .mul (.sim (.idx (.var 0) (.int 1))) (.sim (.int 2862933555777941757))) (.bin .mul (.sim (.int 1181783497276652981)) (.sim (.idx (.var 0) (.int 2))))) (.sim (.int 7))))
  (.cons (.ix1 0 (.int 1) (.bin .mod (.bltv .int (.sim (.var 2))) (.sim (.int 2305843009213693951))))
  (.cons (.ret (.bin .mod (.bin .fdiv (.bin .mod (.bltv .int (.bin .mul (.sim (.idx (.var 0) (.int 1))) (.sim (.idx (.var 0) (.int 1))))) (.sim (.int 2305843009213693921))) (.sim (.int 4096))) (.sim (.var 1))))
  .nil)))))
/-- a digit off the deck -/
def spTake3 : FS := fun xs Q => ∃ a b c m, xs = [deck a b c, .d (.int m)] ∧ 0 < m ∧ m < 2 ^ 2000 ∧ ∀ r a' b' c' rest, 0 ≤ r → r < m → Q (.d (.int r)) (some (deck a' b' c') :: rest)
theorem div_ok {a m : Int} (h0 : 0 < m) (h1 : m < 2 ^ 2000) : CDivW a m := wide_div (b := 2000) h0 (by
  have e : (m.natAbs : Int) = m := Int.natAbs_of_nonneg (by omega)
  have h2 : (m.natAbs : Int) < ((2 ^ 2000 : Nat) : Int) := by
    rw [e, Int.natCast_pow]
    exact h1
  exact Int.ofNat_lt.mp h2) (by decide) (by decide)
theorem ok_take3 {Γ : Gam} {Φ : Phi} : ∀ xs Q, spTake3 xs Q → fsOf Γ Φ 2 4 bTake3 xs Q := by
  rintro xs Q ⟨a, b, c, m, rfl, h0, h1, hq⟩
  refine ⟨rfl, ?_⟩
  simp only [bTake3, deck, b_int, r_nil, r_cons, r_set, r_unp, r_par, r_ix1, r_ix2, r_ixp, r_ixe, r_app, r_ext, r_expr, r_ret, r_retv, r_retN, r_if, r_for, r_while, r_pass, r_brk, r_cont, q_sim, q_bin, q_neg, q_cmp, q_isN, q_notN, q_chain, q_and, q_or, q_and1, q_and2, q_or1, q_or2, q_not, q_ite, q_tup, q_lst, q_idx, q_slice, q_rev, q_blt1, q_bltv, q_blt2, q_sortset, q_lrng, q_lc, q_pop, q_index, q_es0, q_es1, q_o0, q_o1, q_c0, q_c1, q_seq, q_rng, q_enum, q_zip, g_name, g_tup, g_t0, g_t1, o_add, o_sub, o_mul, o_fdiv, o_mod, o_pow, f_d, f_nil, c_lt, c_le, c_gt, c_ge, c_eq, c_ne, at0, at1, at2, ix0, ix1, ix2, v_var, v_int, v_str, v_bl, v_non, v_glob, v_add, v_sub, v_neg, v_idx, v_len, onV_d, onV_scr, onW_d, onW_scr, onW_own, simR, sv, frzT, E.sim?, E.var?, SE.var?, Tv.item, Tv.len, PyData.itemsOf, List.map_cons, List.map_nil, List.replicate, List.cons_append, List.nil_append, List.length_cons, List.length_nil, List.set_cons_zero, List.set_cons_succ, List.getElem?_cons_zero, List.getElem?_cons_succ, Option.join_some, Option.some.injEq, Option.map_some, exists_eq', exists_eq, exists_eq_left', exists_eq_left, exists_and_left, Option.bind_some, Option.bind_eq_bind, Option.pure_def, wipeR, restR, keepD, Tv.d.injEq, Tv.own.injEq, PyData.int.injEq, PyData.bool.injEq, PyData.tuple.injEq, PyData.list.injEq, PyData.str.injEq, List.cons.injEq, and_true, if_tt, if_ff, Option.bind_none, Option.getD_none, Option.getD_some, Int.sub_zero, Int.zero_add, and_assoc, true_and, exists_const, Nat.reduceAdd, Nat.reduceLT, Nat.reduceSub, Nat.zero_add]
  have z := div_ok (a := a) h0 h1
  refine if_l (fun _ => ⟨h0, z, hq _ _ _ _ _ (Int.emod_nonneg _ (by omega)) (Int.emod_lt_of_pos _ h0)⟩) fun _ => ?_
  have lo := Int.emod_nonneg (b * 2862933555777941757 + 1181783497276652981 * (c + 1) + 7) (b := 2305843009213693951) (by decide)
  have hi := Int.emod_lt_of_pos (b * 2862933555777941757 + 1181783497276652981 * (c + 1) + 7) (b := 2305843009213693951) (by decide)
  refine ⟨m_small (by decide) (by decide), m_small' (by decide) (by decide), by decide, m_small (by omega) (by omega), by decide, wide_div (b := 13) (by decide) (by decide) (by decide) (by decide), h0, hq _ _ _ _ _ (Int.emod_nonneg _ (by omega)) (Int.emod_lt_of_pos _ h0)⟩
def bDeck3 (k p : Nat) : SL := (.cons (.par [2, 3] (.cons (.sim (.int 0)) (.cons (.bin .add (.sim (.int (12750 : Nat))) (.bin .mul (.sim (.int 43)) (.sim (.len (.var 0))))) .nil)))
  (.cons (.for_ (.name 1) (.seq (.slice (.sim (.var 0)) .non (.som (.sim (.int 63)))))
  (.cons (.ite (.cmp .ge (.sim (.var 1)) (.bin .pow (.sim (.int 10)) (.sim (.int 18))))
  (.cons (.set 2 (.bin .sub (.bin .add (.bin .mul (.sim (.var 2)) (.sim (.int 53))) (.sim (.var 1))) (.bin .pow (.sim (.int 10)) (.sim (.int 18)))))
  .nil)
  (.cons (.set 3 (.bin .add (.bin .add (.bin .mul (.sim (.var 3)) (.sim (.int 3202034522624059733))) (.bin .mul (.sim (.int 2)) (.bltv .abs (.sim (.var 1))))) (.bltv .int (.cmp .lt (.sim (.var 1)) (.sim (.int 0))))))
  (.cons (.set 3 (.bin .mod (.bltv .int (.sim (.var 3))) (.sim (.int 2305843009213693951))))
  .nil)))
  .nil)
  [1])
  (.cons (.ret (.lst (.cons (.sim (.var 2)) (.cons (.sim (.var 3)) (.cons (.sim (.int 0)) .nil)))))
  .nil)))
def spDeck3 : FS := fun xs Q => ∃ ns, xs = [.scr ns] ∧ ∀ a b c rest, Q (deck a b c) rest
theorem pow_ok {i : Int} {j : Int} (h0 : 0 ≤ j) (h1 : j ≤ 1000000) (h2 : i.natAbs < 2 ^ 64) : CPow i j := ⟨h0, h1, h2⟩
theorem ok_deck3 {Γ : Gam} {Φ : Phi} : ∀ xs Q, spDeck3 xs Q → fsOf Γ Φ 1 4 (bDeck3 0 0) xs Q := by
  rintro xs Q ⟨ns, rfl, hq⟩
  refine ⟨rfl, ?_⟩
  simp only [bDeck3, deck, b_int, b_intb, b_abs, s_scr, f_own, List.zip_cons_cons, List.zip_nil_right, List.foldl_cons, List.foldl_nil, r_nil, r_cons, r_set, r_unp, r_par, r_ix1, r_ix2, r_ixp, r_ixe, r_app, r_ext, r_expr, r_ret, r_retv, r_retN, r_if, r_for, r_while, r_pass, r_brk, r_cont, q_sim, q_bin, q_neg, q_cmp, q_isN, q_notN, q_chain, q_and, q_or, q_and1, q_and2, q_or1, q_or2, q_not, q_ite, q_tup, q_lst, q_idx, q_slice, q_rev, q_blt1, q_bltv, q_blt2, q_sortset, q_lrng, q_lc, q_pop, q_index, q_es0, q_es1, q_o0, q_o1, q_c0, q_c1, q_seq, q_rng, q_enum, q_zip, g_name, g_tup, g_t0, g_t1, o_add, o_sub, o_mul, o_fdiv, o_mod, o_pow, f_d, f_nil, c_lt, c_le, c_gt, c_ge, c_eq, c_ne, at0, at1, at2, ix0, ix1, ix2, v_var, v_int, v_str, v_bl, v_non, v_glob, v_add, v_sub, v_neg, v_idx, v_len, onV_d, onV_scr, onW_d, onW_scr, onW_own, simR, sv, frzT, E.sim?, E.var?, SE.var?, Tv.item, Tv.len, PyData.itemsOf, List.map_cons, List.map_nil, List.replicate, List.cons_append, List.nil_append, List.length_cons, List.length_nil, List.set_cons_zero, List.set_cons_succ, List.getElem?_cons_zero, List.getElem?_cons_succ, Option.join_some, Option.some.injEq, Option.map_some, exists_eq', exists_eq, exists_eq_left', exists_eq_left, exists_and_left, Option.bind_some, Option.bind_eq_bind, Option.pure_def, wipeR, restR, keepD, Tv.d.injEq, Tv.own.injEq, PyData.int.injEq, PyData.bool.injEq, PyData.tuple.injEq, PyData.list.injEq, PyData.str.injEq, List.cons.injEq, and_true, if_tt, if_ff, Option.bind_none, Option.getD_none, Option.getD_some, Int.sub_zero, Int.zero_add, and_assoc, true_and, exists_const, Nat.reduceAdd, Nat.reduceLT, Nat.reduceSub, Nat.zero_add]
  refine ⟨m_small' (by decide) (by decide), by decide, by decide, ?_⟩
  refine ⟨fun k ρ => ∃ g s, ρ = [some (.scr ns), none, some (.d (.int g)), some (.d (.int s))], ⟨_, _, rfl⟩, ?_, ?_⟩
  · rintro k x ρ2 hx ⟨g, s, rfl⟩
    rw [List.getElem?_map] at hx
    obtain ⟨n, hn, rfl⟩ := Option.map_eq_some_iff.mp hx
    simp only [b_int, b_intb, b_abs, r_nil, r_cons, r_set, r_unp, r_par, r_ix1, r_ix2, r_ixp, r_ixe, r_app, r_ext, r_expr, r_ret, r_retv, r_retN, r_if, r_for, r_while, r_pass, r_brk, r_cont, q_sim, q_bin, q_neg, q_cmp, q_isN, q_notN, q_chain, q_and, q_or, q_and1, q_and2, q_or1, q_or2, q_not, q_ite, q_tup, q_lst, q_idx, q_slice, q_rev, q_blt1, q_bltv, q_blt2, q_sortset, q_lrng, q_lc, q_pop, q_index, q_es0, q_es1, q_o0, q_o1, q_c0, q_c1, q_seq, q_rng, q_enum, q_zip, g_name, g_tup, g_t0, g_t1, o_add, o_sub, o_mul, o_fdiv, o_mod, o_pow, f_d, f_nil, c_lt, c_le, c_gt, c_ge, c_eq, c_ne, at0, at1, at2, ix0, ix1, ix2, v_var, v_int, v_str, v_bl, v_non, v_glob, v_add, v_sub, v_neg, v_idx, v_len, onV_d, onV_scr, onW_d, onW_scr, onW_own, simR, sv, frzT, E.sim?, E.var?, SE.var?, Tv.item, Tv.len, PyData.itemsOf, List.map_cons, List.map_nil, List.replicate, List.cons_append, List.nil_append, List.length_cons, List.length_nil, List.set_cons_zero, List.set_cons_succ, List.getElem?_cons_zero, List.getElem?_cons_succ, Option.join_some, Option.some.injEq, Option.map_some, exists_eq', exists_eq, exists_eq_left', exists_eq_left, exists_and_left, Option.bind_some, Option.bind_eq_bind, Option.pure_def, wipeR, restR, keepD, Tv.d.injEq, Tv.own.injEq, PyData.int.injEq, PyData.bool.injEq, PyData.tuple.injEq, PyData.list.injEq, PyData.str.injEq, List.cons.injEq, and_true, if_tt, if_ff, Option.bind_none, Option.getD_none, Option.getD_some, Int.sub_zero, Int.zero_add, and_assoc, true_and, exists_const, Nat.reduceAdd, Nat.reduceLT, Nat.reduceSub, Nat.zero_add]
    exact ⟨pow_ok (by decide) (by decide) (by decide), if_l (fun _ => ⟨m_small (by decide) (by decide), pow_ok (by decide) (by decide) (by decide)⟩) fun _ => ⟨m_small (by decide) (by decide), m_small' (by decide) (by decide), by decide⟩⟩
  · rintro ρ2 ⟨g, s, rfl⟩
    simp only [r_nil, r_cons, r_set, r_unp, r_par, r_ix1, r_ix2, r_ixp, r_ixe, r_app, r_ext, r_expr, r_ret, r_retv, r_retN, r_if, r_for, r_while, r_pass, r_brk, r_cont, q_sim, q_bin, q_neg, q_cmp, q_isN, q_notN, q_chain, q_and, q_or, q_and1, q_and2, q_or1, q_or2, q_not, q_ite, q_tup, q_lst, q_idx, q_slice, q_rev, q_blt1, q_bltv, q_blt2, q_sortset, q_lrng, q_lc, q_pop, q_index, q_es0, q_es1, q_o0, q_o1, q_c0, q_c1, q_seq, q_rng, q_enum, q_zip, g_name, g_tup, g_t0, g_t1, o_add, o_sub, o_mul, o_fdiv, o_mod, o_pow, f_d, f_nil, c_lt, c_le, c_gt, c_ge, c_eq, c_ne, at0, at1, at2, ix0, ix1, ix2, v_var, v_int, v_str, v_bl, v_non, v_glob, v_add, v_sub, v_neg, v_idx, v_len, onV_d, onV_scr, onW_d, onW_scr, onW_own, simR, sv, frzT, E.sim?, E.var?, SE.var?, Tv.item, Tv.len, PyData.itemsOf, List.map_cons, List.map_nil, List.replicate, List.cons_append, List.nil_append, List.length_cons, List.length_nil, List.set_cons_zero, List.set_cons_succ, List.getElem?_cons_zero, List.getElem?_cons_succ, Option.join_some, Option.some.injEq, Option.map_some, exists_eq', exists_eq, exists_eq_left', exists_eq_left, exists_and_left, Option.bind_some, Option.bind_eq_bind, Option.pure_def, wipeR, restR, keepD, Tv.d.injEq, Tv.own.injEq, PyData.int.injEq, PyData.bool.injEq, PyData.tuple.injEq, PyData.list.injEq, PyData.str.injEq, List.cons.injEq, and_true, if_tt, if_ff, Option.bind_none, Option.getD_none, Option.getD_some, Int.sub_zero, Int.zero_add, and_assoc, true_and, exists_const, Nat.reduceAdd, Nat.reduceLT, Nat.reduceSub, Nat.zero_add]
    exact hq _ _ _ _
def bPick3 : SL := (.cons (.ret (.idx (.sim (.var 1)) (.call "_law_take" (.cons (.sim (.var 0)) (.cons (.sim (.len (.var 1))) .nil)))))
  .nil)
/-- one of several, by the deck -/
def spPick3 : FS := fun xs Q => ∃ a b c, ∃ ds : List PyData, xs = [deck a b c, .d (.list ds)] ∧ ds ≠ [] ∧ ds.length < 2 ^ 60 ∧ ∀ d a' b' c' rest, d ∈ ds → Q (.d d) (some (deck a' b' c') :: rest)
def feTake3 : FE := ⟨["_law_deck_here", "_law_many"], [], some 0, spTake3⟩
theorem ok_pick3 {Γ : Gam} {Φ : Phi} (hT : Φ "_law_take" = some feTake3) : ∀ xs Q, spPick3 xs Q → fsOf Γ Φ 2 2 bPick3 xs Q := by
  rintro xs Q ⟨a, b, c, ds, rfl, h0, h1, hq⟩
  refine ⟨rfl, ?_⟩
  have hl : 0 < ds.length := List.length_pos_iff.mpr h0
  simp only [bPick3, deck, q_callO hT rfl, argTs, argT, feTake3, r_nil, r_cons, r_set, r_unp, r_par, r_ix1, r_ix2, r_ixp, r_ixe, r_app, r_ext, r_expr, r_ret, r_retv, r_retN, r_if, r_for, r_while, r_pass, r_brk, r_cont, q_sim, q_bin, q_neg, q_cmp, q_isN, q_notN, q_chain, q_and, q_or, q_and1, q_and2, q_or1, q_or2, q_not, q_ite, q_tup, q_lst, q_idx, q_slice, q_rev, q_blt1, q_bltv, q_blt2, q_sortset, q_lrng, q_lc, q_pop, q_index, q_es0, q_es1, q_o0, q_o1, q_c0, q_c1, q_seq, q_rng, q_enum, q_zip, g_name, g_tup, g_t0, g_t1, o_add, o_sub, o_mul, o_fdiv, o_mod, o_pow, f_d, f_nil, c_lt, c_le, c_gt, c_ge, c_eq, c_ne, at0, at1, at2, ix0, ix1, ix2, v_var, v_int, v_str, v_bl, v_non, v_glob, v_add, v_sub, v_neg, v_idx, v_len, onV_d, onV_scr, onW_d, onW_scr, onW_own, simR, sv, frzT, E.sim?, E.var?, SE.var?, Tv.item, Tv.len, PyData.itemsOf, List.map_cons, List.map_nil, List.replicate, List.cons_append, List.nil_append, List.length_cons, List.length_nil, List.set_cons_zero, List.set_cons_succ, List.getElem?_cons_zero, List.getElem?_cons_succ, Option.join_some, Option.some.injEq, Option.map_some, exists_eq', exists_eq, exists_eq_left', exists_eq_left, exists_and_left, Option.bind_some, Option.bind_eq_bind, Option.pure_def, wipeR, restR, keepD, Tv.d.injEq, Tv.own.injEq, PyData.int.injEq, PyData.bool.injEq, PyData.tuple.injEq, PyData.list.injEq, PyData.str.injEq, List.cons.injEq, and_true, if_tt, if_ff, Option.bind_none, Option.getD_none, Option.getD_some, Int.sub_zero, Int.zero_add, and_assoc, true_and, exists_const, Nat.reduceAdd, Nat.reduceLT, Nat.reduceSub, Nat.zero_add]
  refine ⟨a, b, c, _, rfl, by omega, Int.lt_trans (show (ds.length : Int) < 2 ^ 60 by omega) (by decide), fun r a' b' c' rest r0 r1 => ?_⟩
  simp only [deck, r_nil, r_cons, r_set, r_unp, r_par, r_ix1, r_ix2, r_ixp, r_ixe, r_app, r_ext, r_expr, r_ret, r_retv, r_retN, r_if, r_for, r_while, r_pass, r_brk, r_cont, q_sim, q_bin, q_neg, q_cmp, q_isN, q_notN, q_chain, q_and, q_or, q_and1, q_and2, q_or1, q_or2, q_not, q_ite, q_tup, q_lst, q_idx, q_slice, q_rev, q_blt1, q_bltv, q_blt2, q_sortset, q_lrng, q_lc, q_pop, q_index, q_es0, q_es1, q_o0, q_o1, q_c0, q_c1, q_seq, q_rng, q_enum, q_zip, g_name, g_tup, g_t0, g_t1, o_add, o_sub, o_mul, o_fdiv, o_mod, o_pow, f_d, f_nil, c_lt, c_le, c_gt, c_ge, c_eq, c_ne, at0, at1, at2, ix0, ix1, ix2, v_var, v_int, v_str, v_bl, v_non, v_glob, v_add, v_sub, v_neg, v_idx, v_len, onV_d, onV_scr, onW_d, onW_scr, onW_own, simR, sv, frzT, E.sim?, E.var?, SE.var?, Tv.item, Tv.len, PyData.itemsOf, List.map_cons, List.map_nil, List.replicate, List.cons_append, List.nil_append, List.length_cons, List.length_nil, List.set_cons_zero, List.set_cons_succ, List.getElem?_cons_zero, List.getElem?_cons_succ, Option.join_some, Option.some.injEq, Option.map_some, exists_eq', exists_eq, exists_eq_left', exists_eq_left, exists_and_left, Option.bind_some, Option.bind_eq_bind, Option.pure_def, wipeR, restR, keepD, Tv.d.injEq, Tv.own.injEq, PyData.int.injEq, PyData.bool.injEq, PyData.tuple.injEq, PyData.list.injEq, PyData.str.injEq, List.cons.injEq, and_true, if_tt, if_ff, Option.bind_none, Option.getD_none, Option.getD_some, Int.sub_zero, Int.zero_add, and_assoc, true_and, exists_const, Nat.reduceAdd, Nat.reduceLT, Nat.reduceSub, Nat.zero_add]
  have hr : r.toNat < ds.length := by omega
  refine ⟨ds[r.toNat], ?_, hq _ _ _ _ _ (List.getElem_mem hr)⟩
  have e : atI ds r = some ds[r.toNat] := by
    have e0 := atI_nat (xs := ds) (List.getElem?_eq_getElem hr)
    rwa [Int.toNat_of_nonneg r0] at e0
  rw [e]
  rfl
end Tr
set_option Elab.async false
set_option linter.all false
set_option maxRecDepth 100000
set_option maxHeartbeats 4000000
namespace Tr
open PySem PySem.Spec PyProof.Rows L2
def bRanks : SL := (.cons (.set 1 (.lst .nil))
  (.cons (.for_ (.name 2) (.seq (.rev (.sortset (.sim (.var 0)))))
  (.cons (.app 1 (.blt1 .tuple (.lc (.sim (.var 3)) (.tup (.cons (.name 3) (.cons (.name 4) .nil))) (.enum (.sim (.var 0))) (.som (.cmp .eq (.sim (.var 4)) (.sim (.var 2)))) [3, 4])))
  .nil)
  [2])
  (.cons (.ret (.blt1 .tuple (.sim (.var 1))))
  .nil)))
/-- the places of v -/
def posL (ts : List Int) (v : Int) (n : Nat) : List Int := ((List.range n).filter fun p => ts[p]? == some v).map Int.ofNat
def posD (ts : List Int) (v : Int) : PyData := .tuple ((posL ts v ts.length).map .int)
def RanksIs (ts : List Int) (d : PyData) : Prop := ∃ ms : List Int, isSortSet ts ms ∧ d = .tuple (ms.reverse.map (posD ts))
def spRanks : FS := fun xs Q => ∃ ts : List Int, xs = [.d (.tuple (ts.map .int))] ∧ ts.length < 64 ∧ ∀ d rest, RanksIs ts d → Q (.d d) rest
theorem intsOf_map : ∀ ns : List Int, intsOf (ns.map PyData.int) = some ns
  | [] => rfl
  | n :: ns => by
    show (intsOf (ns.map PyData.int)).map (n :: ·) = _
    rw [intsOf_map ns]
    rfl
theorem b_tuple {ds : List PyData} {R : Tv → Prop} : bltO .tuple [.own (ds.map Tv.d)] R = R (.d (.tuple ds)) := by
  refine propext ⟨fun ⟨x, d, xs, h1, h2, h3, h⟩ => ?_, fun h => ⟨_, _, _, rfl, f_own, rfl, h⟩⟩
  cases h1
  rw [f_own] at h2
  cases h2
  cases h3
  exact h
theorem b_tupleL {ds : List PyData} {R : Tv → Prop} : bltO .tuple [.d (.list ds)] R = R (.d (.tuple ds)) := by
  refine propext ⟨fun ⟨x, d, xs, h1, h2, h3, h⟩ => ?_, fun h => ⟨_, _, _, rfl, rfl, rfl, h⟩⟩
  cases h1
  cases h2
  cases h3
  exact h
theorem rev_own {ds : List PyData} {R : Tv → Prop} : revO (.own (ds.map Tv.d)) R = R (.own (ds.reverse.map Tv.d)) := by
  refine propext ⟨fun ⟨xs, h1, h⟩ => ?_, fun h => ⟨_, f_own, h⟩⟩
  rw [f_own] at h1
  cases h1
  exact h
theorem small64 {n : Nat} (h : n < 1000) : n < sizeLine := small1000 (by omega)
theorem posL_succ (ts : List Int) (v : Int) (k : Nat) : posL ts v (k + 1) = posL ts v k ++ if ts[k]? == some v then [(k : Int)] else [] := by
  unfold posL
  rw [List.range_succ, List.filter_append, List.map_append]
  congr 1
  by_cases h : ts[k]? == some v
  · rw [List.filter_cons_of_pos (by simpa using h), if_pos h]
    rfl
  · rw [List.filter_cons_of_neg (by simpa using h), if_neg h]
    rfl
theorem posL_len (ts : List Int) (v : Int) (k : Nat) : (posL ts v k).length ≤ k := by
  unfold posL
  rw [List.length_map]
  exact Nat.le_trans (List.length_filter_le _ _) (by simp)
theorem map_map_d (ns : List Int) : ns.map (fun n => Tv.d (PyData.int n)) = (ns.map PyData.int).map Tv.d := by rw [List.map_map]; rfl
theorem take_snoc {α : Type} {l : List α} {k : Nat} {x : α} (h : l[k]? = some x) : l.take (k + 1) = l.take k ++ [x] := by rw [List.take_add_one, h]; rfl
theorem nodup_lt : ∀ {ms : List Int}, ms.Pairwise (· < ·) → ms.Nodup := fun h => h.imp fun h e => by omega
theorem len_sub : ∀ {ms ts : List Int}, ms.Nodup → (∀ x ∈ ms, x ∈ ts) → ms.length ≤ ts.length
  | [], _, _, _ => Nat.zero_le _
  | m :: ms, ts, nd, h => by
    have nd' := List.nodup_cons.mp nd
    have hm := h m (by simp)
    have := len_sub (ts := ts.erase m) nd'.2 fun x hx => (List.mem_erase_of_ne (fun e => nd'.1 (by rw [← e]; exact hx))).mpr (h x (by simp [hx]))
    rw [List.length_erase_of_mem hm] at this
    have := List.length_pos_of_mem hm
    rw [List.length_cons]
    omega
theorem sub_len {ms ts : List Int} (h : isSortSet ts ms) : ms.length ≤ ts.length := by
  have nd := nodup_lt h.1
  exact len_sub nd fun x hx => (h.2 x).mp hx
theorem ok_ranks {Γ : Gam} {Φ : Phi} : ∀ xs Q, spRanks xs Q → fsOf Γ Φ 1 5 bRanks xs Q := by
  rintro xs Q ⟨ts, rfl, hl, hq⟩
  refine ⟨rfl, ?_⟩
  simp only [bRanks, intsOf_map, map_map_d, rev_own, f_own, r_nil, r_cons, r_set, r_unp, r_par, r_ix1, r_ix2, r_ixp, r_ixe, r_app, r_ext, r_expr, r_ret, r_retv, r_retN, r_if, r_for, r_while, r_pass, r_brk, r_cont, q_sim, q_bin, q_neg, q_cmp, q_isN, q_notN, q_chain, q_and, q_or, q_and1, q_and2, q_or1, q_or2, q_not, q_ite, q_tup, q_lst, q_idx, q_slice, q_rev, q_blt1, q_bltv, q_blt2, q_sortset, q_lrng, q_lc, q_pop, q_index, q_es0, q_es1, q_o0, q_o1, q_c0, q_c1, q_seq, q_rng, q_enum, q_zip, g_name, g_tup, g_t0, g_t1, o_add, o_sub, o_mul, o_fdiv, o_mod, o_pow, f_d, f_nil, c_lt, c_le, c_gt, c_ge, c_eq, c_ne, at0, at1, at2, ix0, ix1, ix2, v_var, v_int, v_str, v_bl, v_non, v_glob, v_add, v_sub, v_neg, v_idx, v_len, onV_d, onV_scr, onW_d, onW_scr, onW_own, simR, sv, frzT, E.sim?, E.var?, SE.var?, Tv.item, Tv.len, PyData.itemsOf, List.map_cons, List.map_nil, List.replicate, List.cons_append, List.nil_append, List.length_cons, List.length_nil, List.set_cons_zero, List.set_cons_succ, List.getElem?_cons_zero, List.getElem?_cons_succ, Option.join_some, Option.some.injEq, Option.map_some, exists_eq', exists_eq, exists_eq_left', exists_eq_left, exists_and_left, Option.bind_some, Option.bind_eq_bind, Option.pure_def, wipeR, restR, keepD, Tv.d.injEq, Tv.own.injEq, PyData.int.injEq, PyData.bool.injEq, PyData.tuple.injEq, PyData.list.injEq, PyData.str.injEq, List.cons.injEq, and_true, if_tt, if_ff, Option.bind_none, Option.getD_none, Option.getD_some, Int.sub_zero, Int.zero_add, and_assoc, true_and, exists_const, Nat.reduceAdd, Nat.reduceLT, Nat.reduceSub, Nat.zero_add]
  refine ⟨hl, fun ms hms => ?_⟩
  have hml := sub_len hms
  refine ⟨fun k ρ => ρ = [some (.d (.tuple (ts.map .int))), some (.own (((ms.reverse.take k).map (posD ts)).map Tv.d)), none, none, none], by simp, ?_, ?_⟩
  · rintro k x ρ2 hx rfl
    have hk := (List.getElem?_eq_some_iff.mp hx).1
    rw [← List.map_reverse, List.getElem?_map] at hx
    obtain ⟨v, hv, rfl⟩ := Option.map_eq_some_iff.mp hx
    simp only [r_nil, r_cons, r_set, r_unp, r_par, r_ix1, r_ix2, r_ixp, r_ixe, r_app, r_ext, r_expr, r_ret, r_retv, r_retN, r_if, r_for, r_while, r_pass, r_brk, r_cont, q_sim, q_bin, q_neg, q_cmp, q_isN, q_notN, q_chain, q_and, q_or, q_and1, q_and2, q_or1, q_or2, q_not, q_ite, q_tup, q_lst, q_idx, q_slice, q_rev, q_blt1, q_bltv, q_blt2, q_sortset, q_lrng, q_lc, q_pop, q_index, q_es0, q_es1, q_o0, q_o1, q_c0, q_c1, q_seq, q_rng, q_enum, q_zip, g_name, g_tup, g_t0, g_t1, o_add, o_sub, o_mul, o_fdiv, o_mod, o_pow, f_d, f_nil, c_lt, c_le, c_gt, c_ge, c_eq, c_ne, at0, at1, at2, ix0, ix1, ix2, v_var, v_int, v_str, v_bl, v_non, v_glob, v_add, v_sub, v_neg, v_idx, v_len, onV_d, onV_scr, onW_d, onW_scr, onW_own, simR, sv, frzT, E.sim?, E.var?, SE.var?, Tv.item, Tv.len, PyData.itemsOf, List.map_cons, List.map_nil, List.replicate, List.cons_append, List.nil_append, List.length_cons, List.length_nil, List.set_cons_zero, List.set_cons_succ, List.getElem?_cons_zero, List.getElem?_cons_succ, Option.join_some, Option.some.injEq, Option.map_some, exists_eq', exists_eq, exists_eq_left', exists_eq_left, exists_and_left, Option.bind_some, Option.bind_eq_bind, Option.pure_def, wipeR, restR, keepD, Tv.d.injEq, Tv.own.injEq, PyData.int.injEq, PyData.bool.injEq, PyData.tuple.injEq, PyData.list.injEq, PyData.str.injEq, List.cons.injEq, and_true, if_tt, if_ff, Option.bind_none, Option.getD_none, Option.getD_some, Int.sub_zero, Int.zero_add, and_assoc, true_and, exists_const, Nat.reduceAdd, Nat.reduceLT, Nat.reduceSub, Nat.zero_add]
    refine ⟨fun j acc ρ => acc = ((posL ts v j).map PyData.int).map Tv.d ∧ ρ = [some (.d (.tuple (ts.map .int))), some (.own (((ms.reverse.take k).map (posD ts)).map Tv.d)), some (.d (.int v)), none, none], ⟨rfl, rfl⟩, ?_, ?_⟩
    · rintro j x acc ρ2 hx ⟨rfl, rfl⟩
      have hj := (List.getElem?_eq_some_iff.mp hx).1
      simp only [List.length_mapIdx, List.length_map] at hj
      simp only [List.getElem?_mapIdx, List.getElem?_map, Option.map_eq_some_iff] at hx
      obtain ⟨_, ⟨u, hu, rfl⟩, rfl⟩ := hx
      simp only [r_nil, r_cons, r_set, r_unp, r_par, r_ix1, r_ix2, r_ixp, r_ixe, r_app, r_ext, r_expr, r_ret, r_retv, r_retN, r_if, r_for, r_while, r_pass, r_brk, r_cont, q_sim, q_bin, q_neg, q_cmp, q_isN, q_notN, q_chain, q_and, q_or, q_and1, q_and2, q_or1, q_or2, q_not, q_ite, q_tup, q_lst, q_idx, q_slice, q_rev, q_blt1, q_bltv, q_blt2, q_sortset, q_lrng, q_lc, q_pop, q_index, q_es0, q_es1, q_o0, q_o1, q_c0, q_c1, q_seq, q_rng, q_enum, q_zip, g_name, g_tup, g_t0, g_t1, o_add, o_sub, o_mul, o_fdiv, o_mod, o_pow, f_d, f_nil, c_lt, c_le, c_gt, c_ge, c_eq, c_ne, at0, at1, at2, ix0, ix1, ix2, v_var, v_int, v_str, v_bl, v_non, v_glob, v_add, v_sub, v_neg, v_idx, v_len, onV_d, onV_scr, onW_d, onW_scr, onW_own, simR, sv, frzT, E.sim?, E.var?, SE.var?, Tv.item, Tv.len, PyData.itemsOf, List.map_cons, List.map_nil, List.replicate, List.cons_append, List.nil_append, List.length_cons, List.length_nil, List.set_cons_zero, List.set_cons_succ, List.getElem?_cons_zero, List.getElem?_cons_succ, Option.join_some, Option.some.injEq, Option.map_some, exists_eq', exists_eq, exists_eq_left', exists_eq_left, exists_and_left, Option.bind_some, Option.bind_eq_bind, Option.pure_def, wipeR, restR, keepD, Tv.d.injEq, Tv.own.injEq, PyData.int.injEq, PyData.bool.injEq, PyData.tuple.injEq, PyData.list.injEq, PyData.str.injEq, List.cons.injEq, and_true, if_tt, if_ff, Option.bind_none, Option.getD_none, Option.getD_some, Int.sub_zero, Int.zero_add, and_assoc, true_and, exists_const, Nat.reduceAdd, Nat.reduceLT, Nat.reduceSub, Nat.zero_add]
      have := posL_len ts v j
      refine ⟨fun e => ⟨by simp only [List.length_map]; exact small64 (by omega), ?_⟩, fun e => ?_⟩
      · rw [posL_succ, hu, if_pos (by simpa using e)]
        simp
      · rw [posL_succ, hu, if_neg (by simpa using e)]
        simp
    · rintro acc ρ2 ⟨rfl, rfl⟩
      simp only [List.length_mapIdx, List.length_map, b_tuple, r_nil, r_cons, r_set, r_unp, r_par, r_ix1, r_ix2, r_ixp, r_ixe, r_app, r_ext, r_expr, r_ret, r_retv, r_retN, r_if, r_for, r_while, r_pass, r_brk, r_cont, q_sim, q_bin, q_neg, q_cmp, q_isN, q_notN, q_chain, q_and, q_or, q_and1, q_and2, q_or1, q_or2, q_not, q_ite, q_tup, q_lst, q_idx, q_slice, q_rev, q_blt1, q_bltv, q_blt2, q_sortset, q_lrng, q_lc, q_pop, q_index, q_es0, q_es1, q_o0, q_o1, q_c0, q_c1, q_seq, q_rng, q_enum, q_zip, g_name, g_tup, g_t0, g_t1, o_add, o_sub, o_mul, o_fdiv, o_mod, o_pow, f_d, f_nil, c_lt, c_le, c_gt, c_ge, c_eq, c_ne, at0, at1, at2, ix0, ix1, ix2, v_var, v_int, v_str, v_bl, v_non, v_glob, v_add, v_sub, v_neg, v_idx, v_len, onV_d, onV_scr, onW_d, onW_scr, onW_own, simR, sv, frzT, E.sim?, E.var?, SE.var?, Tv.item, Tv.len, PyData.itemsOf, List.map_cons, List.map_nil, List.replicate, List.cons_append, List.nil_append, List.length_cons, List.length_nil, List.set_cons_zero, List.set_cons_succ, List.getElem?_cons_zero, List.getElem?_cons_succ, Option.join_some, Option.some.injEq, Option.map_some, exists_eq', exists_eq, exists_eq_left', exists_eq_left, exists_and_left, Option.bind_some, Option.bind_eq_bind, Option.pure_def, wipeR, restR, keepD, Tv.d.injEq, Tv.own.injEq, PyData.int.injEq, PyData.bool.injEq, PyData.tuple.injEq, PyData.list.injEq, PyData.str.injEq, List.cons.injEq, and_true, if_tt, if_ff, Option.bind_none, Option.getD_none, Option.getD_some, Int.sub_zero, Int.zero_add, and_assoc, true_and, exists_const, Nat.reduceAdd, Nat.reduceLT, Nat.reduceSub, Nat.zero_add]
      refine ⟨?_, ?_⟩
      · have := List.length_take_le k ms.reverse
        simp only [List.length_map, List.length_take, List.length_reverse]
        exact small64 (by omega)
      · rw [take_snoc hv, List.map_append, List.map_append]
        rfl
  · rintro ρ2 rfl
    simp only [List.length_reverse, List.length_map, f_own, b_tupleL, r_nil, r_cons, r_set, r_unp, r_par, r_ix1, r_ix2, r_ixp, r_ixe, r_app, r_ext, r_expr, r_ret, r_retv, r_retN, r_if, r_for, r_while, r_pass, r_brk, r_cont, q_sim, q_bin, q_neg, q_cmp, q_isN, q_notN, q_chain, q_and, q_or, q_and1, q_and2, q_or1, q_or2, q_not, q_ite, q_tup, q_lst, q_idx, q_slice, q_rev, q_blt1, q_bltv, q_blt2, q_sortset, q_lrng, q_lc, q_pop, q_index, q_es0, q_es1, q_o0, q_o1, q_c0, q_c1, q_seq, q_rng, q_enum, q_zip, g_name, g_tup, g_t0, g_t1, o_add, o_sub, o_mul, o_fdiv, o_mod, o_pow, f_d, f_nil, c_lt, c_le, c_gt, c_ge, c_eq, c_ne, at0, at1, at2, ix0, ix1, ix2, v_var, v_int, v_str, v_bl, v_non, v_glob, v_add, v_sub, v_neg, v_idx, v_len, onV_d, onV_scr, onW_d, onW_scr, onW_own, simR, sv, frzT, E.sim?, E.var?, SE.var?, Tv.item, Tv.len, PyData.itemsOf, List.map_cons, List.map_nil, List.replicate, List.cons_append, List.nil_append, List.length_cons, List.length_nil, List.set_cons_zero, List.set_cons_succ, List.getElem?_cons_zero, List.getElem?_cons_succ, Option.join_some, Option.some.injEq, Option.map_some, exists_eq', exists_eq, exists_eq_left', exists_eq_left, exists_and_left, Option.bind_some, Option.bind_eq_bind, Option.pure_def, wipeR, restR, keepD, Tv.d.injEq, Tv.own.injEq, PyData.int.injEq, PyData.bool.injEq, PyData.tuple.injEq, PyData.list.injEq, PyData.str.injEq, List.cons.injEq, and_true, if_tt, if_ff, Option.bind_none, Option.getD_none, Option.getD_some, Int.sub_zero, Int.zero_add, and_assoc, true_and, exists_const, Nat.reduceAdd, Nat.reduceLT, Nat.reduceSub, Nat.zero_add]
    exact hq _ _ ⟨ms, hms, by rw [List.take_of_length_le (by simp)]⟩
end Tr
set_option Elab.async false
set_option linter.all false
set_option maxRecDepth 100000
set_option maxHeartbeats 4000000
set_option exponentiation.threshold 3000
namespace Tr
open PySem PySem.Spec PyProof.Rows L2
mutual
/-- data of moderate ints; texts only where b -/
def nic (b : Bool) : PyData → Bool
  | .none => true
  | .bool _ => true
  | .int i => decide (i.natAbs < 10 ^ 60)
  | .str x => b && x.cps.toList.all fun c => decide (c < 128)
  | .list xs => nicA b xs
  | .tuple xs => nicA b xs
  | .dict _ => false
def nicA (b : Bool) : List PyData → Bool
  | [] => true
  | x :: xs => nic b x && nicA b xs
end
mutual
def big : PyData → Nat
  | .none => 0
  | .bool _ => 0
  | .int _ => 201
  | .str x => x.cps.size
  | .list xs => bigA xs
  | .tuple xs => bigA xs
  | .dict _ => 0
def bigA : List PyData → Nat
  | [] => 0
  | x :: xs => big x + 1 + bigA xs
end
theorem int_log {i : Int} (h : i.natAbs < 10 ^ 60) : i.natAbs.log2 < 200 := PySem.Flt.log2_lt_of (by decide) (Nat.lt_of_lt_of_le h (by decide))
mutual
theorem nic_leaf (b : Bool) : ∀ d : PyData, nic b d = true → d.leavesShort 70 = true ∧ d.weight ≤ big d ∧ d.showable = true
  | .none, _ => ⟨rfl, Nat.le_refl _, rfl⟩
  | .bool _, _ => ⟨rfl, Nat.le_refl _, rfl⟩
  | .int i, h => by
    have h : i.natAbs < 10 ^ 60 := of_decide_eq_true h
    have hl := int_log h
    have e := PySem.int_text_length_le10 (k := 60) (by decide) h
    refine ⟨?_, ?_, decide_eq_true (by omega)⟩
    · refine decide_eq_true ?_
      show (Str.ofString (toString i)).length ≤ 70
      rw [PySem.ofString_length]
      omega
    · show (if i == 0 then 0 else i.natAbs.log2 + 1) ≤ 201
      split <;> omega
  | .str x, h => by
    have h : (b && x.cps.toList.all fun c => decide (c < 128)) = true := h
    rw [Bool.and_eq_true] at h
    refine ⟨List.all_eq_true.mpr fun c hc => ?_, Nat.le_refl _, rfl⟩
    have := of_decide_eq_true (List.all_eq_true.mp h.2 c hc)
    exact decide_eq_true (by omega)
  | .list xs, h => nic_leafA b xs h
  | .tuple xs, h => nic_leafA b xs h
theorem nic_leafA (b : Bool) : ∀ xs : List PyData, nicA b xs = true → PyData.leavesShortAll 70 xs = true ∧ PyData.weightAll xs ≤ bigA xs ∧ PyData.showableAll xs = true
  | [], _ => ⟨rfl, Nat.le_refl _, rfl⟩
  | x :: xs, h => by
    have h : (nic b x && nicA b xs) = true := h
    rw [Bool.and_eq_true] at h
    obtain ⟨a1, a2, a3⟩ := nic_leaf b x h.1
    obtain ⟨b1, b2, b3⟩ := nic_leafA b xs h.2
    refine ⟨?_, ?_, ?_⟩
    · show (x.leavesShort 70 && PyData.leavesShortAll 70 xs) = true
      rw [a1, b1]
      rfl
    · show x.weight + 1 + PyData.weightAll xs ≤ big x + 1 + bigA xs
      omega
    · show (x.showable && PyData.showableAll xs) = true
      rw [a3, b3]
      rfl
end
theorem shown_size {b : Bool} {d : PyData} (h : nic b d = true) : d.shown.length ≤ 72 * big d + 70 := by
  obtain ⟨h1, h2, _⟩ := nic_leaf b d h
  have := PyData.shown_le 70 (by decide) d h1
  have e : 72 * d.weight ≤ 72 * big d := Nat.mul_le_mul_left _ h2
  omega
theorem show_ok {b : Bool} {d : PyData} (h : nic b d = true) (hs : shal 30 d = true) (hb : big d ≤ 200000) : ShowOk d := by
  refine ⟨(nic_leaf b d h).2.2, hs, ?_⟩
  have := shown_size h
  rw [sizeLine_eq]
  omega
/-! what is shown of ints bears small signs -/
def asc (x : Str) : Prop := ∀ c ∈ x.cps.toList, c < 128
theorem asc_append {x y : Str} (h : asc x) (h' : asc y) : asc (x ++ y) := fun c hc => by
  have e : (x ++ y).cps.toList = x.cps.toList ++ y.cps.toList := by
    show (x.cps ++ y.cps).toList = _
    simp
  rw [e] at hc
  rcases List.mem_append.mp hc with q | q
  · exact h c q
  · exact h' c q
theorem asc_int (i : Int) : asc (Str.ofString (toString i)) := fun c hc => by
  rw [signs_ofString] at hc
  obtain ⟨ch, h1, rfl⟩ := List.mem_map.mp hc
  rcases int_sign i ch h1 with q | q
  · have := digit_range q
    omega
  · subst q
    decide
theorem asc_text : ∀ (ts : List Str) (k : Nat) (acc : Str), asc acc → (∀ t ∈ ts, asc t) → asc (textFrom k acc ts)
  | [], _, _, h, _ => h
  | t :: ts, k, acc, h, ht => by
    refine asc_text ts (k + 1) _ (asc_append (asc_append h ?_) (ht t (by simp))) fun t' h' => ht t' (by simp [h'])
    split
    · show ∀ c ∈ _, _
      decide
    · show ∀ c ∈ _, _
      decide
theorem asc_join : ∀ ts : List Str, (∀ t ∈ ts, asc t) → asc (Str.join ", " ts)
  | [], _ => by
    rw [join_nil]
    show ∀ c ∈ _, _
    decide
  | [x], h => by
    rw [join_one]
    exact h x (by simp)
  | x :: y :: r, h => by
    rw [join_cons_cons]
    refine asc_append (asc_append (h x (by simp)) ?_) (asc_join (y :: r) fun t ht => h t (by simp [ht]))
    show ∀ c ∈ _, _
    decide
mutual
theorem nic_asc : ∀ d : PyData, nic false d = true → asc d.shown
  | .none, _ => by
    show ∀ c ∈ _, _
    decide
  | .bool b, _ => by
    cases b <;> (show ∀ c ∈ _, _) <;> decide
  | .int i, _ => asc_int i
  | .str x, h => nomatch (show false = true from h)
  | .list xs, h => by
    have e : (PyData.list xs).shown = listText (PyData.shownAll xs) := by simp only [PyData.shown]
    rw [e]
    refine asc_append (asc_text _ _ _ ?_ (nic_ascA xs h)) ?_
    · show ∀ c ∈ _, _
      decide
    · show ∀ c ∈ _, _
      decide
  | .tuple xs, h => by
    have e : (PyData.tuple xs).shown = tupleText (PyData.shownAll xs) := by simp only [PyData.shown]
    rw [e]
    refine asc_append (asc_append ?_ (asc_join _ (nic_ascA xs h))) ?_
    · show ∀ c ∈ _, _
      decide
    · split
      · show ∀ c ∈ _, _
        decide
      · show ∀ c ∈ _, _
        decide
theorem nic_ascA : ∀ xs : List PyData, nicA false xs = true → ∀ t ∈ PyData.shownAll xs, asc t
  | [], _, t, ht => by
    have ht : t ∈ ([] : List Str) := by simpa [PyData.shownAll] using ht
    cases ht
  | x :: xs, h, t, ht => by
    have h : (nic false x && nicA false xs) = true := h
    rw [Bool.and_eq_true] at h
    have ht : t ∈ x.shown :: PyData.shownAll xs := by simpa only [PyData.shownAll] using ht
    rcases List.mem_cons.mp ht with q | q
    · rw [q]
      exact nic_asc x h.1
    · exact nic_ascA xs h.2 t q
end
theorem nic_shown {d : PyData} (h : nic false d = true) : nic true (.str d.shown) = true := by
  show (true && _) = true
  rw [Bool.true_and]
  exact List.all_eq_true.mpr fun c hc => decide_eq_true (nic_asc d h c hc)
theorem big_shown {d : PyData} (h : nic false d = true) : big (.str d.shown) ≤ 72 * big d + 70 := shown_size h
theorem nic_ints (b : Bool) : ∀ ns : List Int, (∀ n ∈ ns, n.natAbs < 10 ^ 60) → nicA b (ns.map .int) = true
  | [], _ => rfl
  | n :: ns, h => by
    show (decide (n.natAbs < 10 ^ 60) && nicA b (ns.map .int)) = true
    rw [decide_eq_true (h n (by simp)), nic_ints b ns fun m hm => h m (by simp [hm])]
    rfl
theorem big_ints : ∀ ns : List Int, bigA (ns.map .int) = 202 * ns.length
  | [] => rfl
  | n :: ns => by
    show 201 + 1 + bigA (ns.map .int) = 202 * (ns.length + 1)
    rw [big_ints ns]
    omega
theorem shal_ints (n : Nat) : ∀ ns : List Int, (ns.map PyData.int).all (shal n) = true := fun ns => by
  rw [List.all_eq_true]
  intro x hx
  obtain ⟨i, _, rfl⟩ := List.mem_map.mp hx
  cases n <;> rfl
end Tr
set_option Elab.async false
set_option linter.all false
set_option maxRecDepth 100000
set_option maxHeartbeats 4000000
/-! ranks: the mathematics -/
namespace Tr
open PySem PySem.Spec L2
/-- the places whose value is one of rest -/
def leftL (ts rest : List Int) : List Int := ((List.range ts.length).filter fun p => rest.any fun v => ts[p]? == some v).map Int.ofNat
def valAt (ts : List Int) (p : Int) : Int := (ts[p.toNat]?).getD 0
theorem mem_left {ts rest : List Int} {p : Int} (h : p ∈ leftL ts rest) : ∃ n : Nat, p = n ∧ n < ts.length ∧ ts[n]? = some (valAt ts p) ∧ valAt ts p ∈ rest := by
  unfold leftL at h
  obtain ⟨n, hn, rfl⟩ := List.mem_map.mp h
  obtain ⟨h1, h2⟩ := List.mem_filter.mp hn
  obtain ⟨v, hv, e⟩ := List.any_eq_true.mp h2
  have e : ts[n]? = some v := by simpa using e
  have ev : valAt ts (Int.ofNat n) = v := by
    unfold valAt
    show (ts[n]?).getD 0 = v
    rw [e]
    rfl
  exact ⟨n, rfl, by simpa using h1, by rw [ev]; exact e, by rw [ev]; exact hv⟩
theorem left_mem {ts rest : List Int} {v : Int} (h : v ∈ rest) (h' : v ∈ ts) : ∃ p ∈ leftL ts rest, valAt ts p = v := by
  obtain ⟨n, hn, e⟩ := List.getElem_of_mem h'
  refine ⟨n, List.mem_map.mpr ⟨n, List.mem_filter.mpr ⟨by simpa using hn, List.any_eq_true.mpr ⟨v, h, by simp [hn, e]⟩⟩, rfl⟩, ?_⟩
  unfold valAt
  simp [hn, e]
theorem left_nil {ts rest : List Int} (hs : ∀ v ∈ rest, v ∈ ts) (h : leftL ts rest = []) : rest = [] := by
  cases rest with
  | nil => rfl
  | cons v r =>
    obtain ⟨p, hp, _⟩ := left_mem (ts := ts) (rest := v :: r) (v := v) (by simp) (hs v (by simp))
    rw [h] at hp
    cases hp
theorem left_all {ts ms : List Int} (hs : ∀ v ∈ ts, v ∈ ms) : leftL ts ms = (List.range ts.length).map Int.ofNat := by
  unfold leftL
  congr 1
  refine List.filter_eq_self.mpr fun n hn => ?_
  have hn : n < ts.length := by simpa using hn
  exact List.any_eq_true.mpr ⟨ts[n], hs _ (List.getElem_mem hn), by simp [hn]⟩
theorem filt_map {q : Int → Bool} {r : Nat → Bool} (l : List Nat) (h : ∀ n ∈ l, q (Int.ofNat n) = r n) : (l.map Int.ofNat).filter q = (l.filter r).map Int.ofNat := by
  induction l with
  | nil => rfl
  | cons n l ih =>
    have ih := ih fun m hm => h m (by simp [hm])
    rw [List.map_cons]
    by_cases e : r n = true
    · rw [List.filter_cons_of_pos (by rw [h n (by simp)]; exact e), List.filter_cons_of_pos e, List.map_cons, ih]
    · rw [List.filter_cons_of_neg (by rw [h n (by simp)]; exact e), List.filter_cons_of_neg e, ih]
theorem left_pos {ts rest : List Int} {m : Int} : (leftL ts (m :: rest)).filter (fun p => valAt ts p == m) = posL ts m ts.length := by
  unfold leftL posL
  rw [filt_map (r := fun n => ts[n]? == some m), List.filter_filter]
  · congr 1
    refine List.filter_congr fun n hn => ?_
    by_cases e : ts[n]? == some m
    · simp [show ts[n]? = some m by simpa using e]
    · simp only [Bool.not_eq_true] at e
      rw [e]
      rfl
  · intro n hn
    have hn : n < ts.length := by simpa using (List.mem_filter.mp hn).1
    show ((ts[n]?).getD 0 == m) = _
    rw [List.getElem?_eq_getElem hn]
    rfl
theorem left_rest {ts rest : List Int} {m : Int} (hm : m ∉ rest) : (leftL ts (m :: rest)).filter (fun p => !(valAt ts p == m)) = leftL ts rest := by
  unfold leftL
  rw [filt_map (r := fun n => !(ts[n]? == some m)), List.filter_filter]
  · congr 1
    refine List.filter_congr fun n hn => ?_
    have hn : n < ts.length := by simpa using hn
    rw [List.getElem?_eq_getElem hn, Bool.eq_iff_iff]
    simp only [List.any_cons, Bool.and_eq_true, Bool.or_eq_true, Bool.not_eq_true', List.any_eq_true, beq_iff_eq, Option.some.injEq, beq_eq_false_iff_ne, ne_eq]
    constructor
    · rintro ⟨h1, h2 | h2⟩
      · exact absurd h2 h1
      · exact h2
    · rintro ⟨v, hv, e⟩
      exact ⟨fun z => hm (by rw [← z, e]; exact hv), .inr ⟨v, hv, e⟩⟩
  · intro n hn
    have hn : n < ts.length := by simpa using (List.mem_filter.mp hn).1
    show (!((ts[n]?).getD 0 == m)) = _
    rw [List.getElem?_eq_getElem hn]
    rfl
theorem sortset_ex : ∀ ts : List Int, ∃ ms, isSortSet ts ms
  | [] => ⟨[], List.Pairwise.nil, fun _ => Iff.rfl⟩
  | t :: ts => by
    obtain ⟨ms, h1, h2⟩ := sortset_ex ts
    refine ⟨(ms.filter fun x => decide (x < t)) ++ t :: (ms.filter fun x => decide (t < x)), ?_, fun n => ?_⟩
    · rw [List.pairwise_append, List.pairwise_cons]
      refine ⟨h1.filter _, ⟨fun a ha => of_decide_eq_true (List.mem_filter.mp ha).2, h1.filter _⟩, fun a ha b hb => ?_⟩
      have la : a < t := of_decide_eq_true (List.mem_filter.mp ha).2
      rcases List.mem_cons.mp hb with e | hb
      · rw [e]; exact la
      · have : t < b := of_decide_eq_true (List.mem_filter.mp hb).2
        omega
    · simp only [List.mem_append, List.mem_cons, List.mem_filter, decide_eq_true_eq, h2]
      constructor
      · rintro (⟨h, _⟩ | h | ⟨h, _⟩)
        · exact .inr h
        · exact .inl h
        · exact .inr h
      · rintro (h | h)
        · exact .inr (.inl h)
        · rcases Int.lt_trichotomy n t with q | q | q
          · exact .inl ⟨h, q⟩
          · exact .inr (.inl q)
          · exact .inr (.inr ⟨h, q⟩)
theorem sorted_eq : ∀ {a b : List Int}, a.Pairwise (· < ·) → b.Pairwise (· < ·) → (∀ n, n ∈ a ↔ n ∈ b) → a = b
  | [], [], _, _, _ => rfl
  | [], y :: b, _, _, h => absurd ((h y).mpr (by simp)) (by simp)
  | x :: a, [], _, _, h => absurd ((h x).mp (by simp)) (by simp)
  | x :: a, y :: b, ha, hb, h => by
    rw [List.pairwise_cons] at ha hb
    have exy : x = y := by
      rcases List.mem_cons.mp ((h x).mp (by simp)) with e | e
      · exact e
      · have l1 := hb.1 x e
        rcases List.mem_cons.mp ((h y).mpr (by simp)) with e2 | e2
        · exact e2.symm
        · have := ha.1 y e2
          omega
    subst exy
    rw [sorted_eq ha.2 hb.2 fun n => ?_]
    constructor
    · intro hn
      rcases List.mem_cons.mp ((h n).mp (by simp [hn])) with e | e
      · have := ha.1 n hn
        omega
      · exact e
    · intro hn
      rcases List.mem_cons.mp ((h n).mpr (by simp [hn])) with e | e
      · have := hb.1 n hn
        omega
      · exact e
theorem ranks_eq {ts ms : List Int} {d : PyData} (h : isSortSet ts ms) (r : RanksIs ts d) : d = .tuple (ms.reverse.map (posD ts)) := by
  obtain ⟨ms', h', rfl⟩ := r
  rw [sorted_eq h'.1 h.1 fun n => (h'.2 n).trans (h.2 n).symm]
/-- the greatest of what is left -/
theorem max_left {ts rest : List Int} {m n : Int} {vs : List Int} (hm : m ∈ ts) (hd : ∀ v ∈ rest, v < m) (e : (leftL ts (m :: rest)).map (valAt ts) = n :: vs) : vs.foldl max n = m := by
  obtain ⟨h1, h2⟩ := foldl_max_spec vs n
  rw [← e] at h1 h2
  obtain ⟨p, hp, hv⟩ := left_mem (ts := ts) (rest := m :: rest) (v := m) (by simp) hm
  have l1 := h2 m (List.mem_map.mpr ⟨p, hp, hv⟩)
  obtain ⟨q, hq, eq⟩ := List.mem_map.mp h1
  obtain ⟨_, _, _, _, hr⟩ := mem_left hq
  rw [eq] at hr
  rcases List.mem_cons.mp hr with e1 | e1
  · exact e1
  · have := hd _ e1
    omega
theorem nic_pos (ts : List Int) (v : Int) (h : ts.length ≤ 1000) (b : Bool) : nic b (posD ts v) = true := by
  refine nic_ints b _ fun n hn => ?_
  unfold posL at hn
  obtain ⟨p, hp, rfl⟩ := List.mem_map.mp hn
  have : p < ts.length := by simpa using (List.mem_filter.mp hp).1
  refine Nat.lt_of_le_of_lt (m := 1000) ?_ (by decide)
  show p ≤ 1000
  omega
theorem big_pos (ts : List Int) (v : Int) : big (posD ts v) ≤ 202 * ts.length := by
  show bigA _ ≤ _
  rw [big_ints]
  exact Nat.mul_le_mul_left _ (posL_len ts v ts.length)
theorem nic_all (b : Bool) : ∀ xs : List PyData, (∀ x ∈ xs, nic b x = true) → nicA b xs = true
  | [], _ => rfl
  | x :: xs, h => by
    show (nic b x && nicA b xs) = true
    rw [h x (by simp), nic_all b xs fun y hy => h y (by simp [hy])]
    rfl
theorem big_all (k : Nat) : ∀ xs : List PyData, (∀ x ∈ xs, big x ≤ k) → bigA xs ≤ (k + 1) * xs.length
  | [], _ => Nat.le_refl _
  | x :: xs, h => by
    show big x + 1 + bigA xs ≤ (k + 1) * (xs.length + 1)
    have h1 := h x (by simp)
    have h2 := big_all k xs fun y hy => h y (by simp [hy])
    rw [Nat.mul_add]
    omega
/-- how long a name's own list is -/
def ownLen (i : Nat) (ρ : Env') : Nat := match (ρ[i]?).join with
  | some (.own l) => l.length
  | _ => 0
theorem eqv_nil (ds : List PyData) : PyData.eqv (.list ds) (.list []) = ds.isEmpty := by cases ds <;> rfl
theorem c_neNil {ds : List PyData} {R : Bool → Prop} (hs : ds.all (shal 29) = true) (h : R (!ds.isEmpty)) : cmpO .ne (.own (ds.map Tv.d)) (.own []) R :=
  ⟨.list ds, .list [], f_own, rfl, by simpa [shal] using hs, rfl, by rw [eqv_nil]; exact h⟩
theorem c_neStr {x y : Str} {R : Bool → Prop} (h : R (!(x == y))) : cmpO .ne (.d (.str x)) (.d (.str y)) R := ⟨_, _, rfl, rfl, rfl, rfl, h⟩
theorem idx_at {ts : List Int} {p : Int} {rest : List Int} (h : p ∈ leftL ts rest) : atI (ts.map PyData.int) p = some (.int (valAt ts p)) := by
  obtain ⟨n, rfl, hn, e, _⟩ := mem_left h
  refine L2.atI_nat ?_
  rw [List.getElem?_map, e]
  rfl
theorem left_nil' (ts : List Int) : leftL ts [] = [] := by simp [leftL]
theorem left_len (ts rest : List Int) : (leftL ts rest).length ≤ ts.length := by
  unfold leftL
  rw [List.length_map]
  exact Nat.le_trans (List.length_filter_le _ _) (by simp)
theorem left_less {ts rest : List Int} {m : Int} (hm : m ∉ rest) (hm' : m ∈ ts) : (leftL ts rest).length < (leftL ts (m :: rest)).length := by
  rw [← left_rest hm]
  obtain ⟨p, hp, e⟩ := left_mem (ts := ts) (rest := m :: rest) (v := m) (by simp) hm'
  exact List.length_filter_lt_length_iff_exists.mpr ⟨p, hp, by simp [e]⟩
end Tr
set_option Elab.async false
set_option linter.all false
set_option maxRecDepth 100000
set_option maxHeartbeats 4000000
set_option exponentiation.threshold 3000
namespace Tr
open PySem PySem.Spec PyProof.Rows L2
/-! sittings, and who sits once at a pack -/
def sitD (t n e : Int) (ps : List Int) : PyData := .tuple [.int t, .int n, .int e, .tuple (ps.map .int)]
def Sit (pr pk : Int) (d : PyData) : Prop := ∃ (t n e : Int) (ps : List Int), d = sitD t n e ps ∧ 0 ≤ t ∧ t ≤ 100 ∧ 0 ≤ n ∧ n < pr ∧ 0 ≤ e ∧ e < pr ∧ (∀ p ∈ ps, 0 ≤ p ∧ p < pk) ∧ ps.length ≤ 8
def planD (pr pk : Int) (ss : List PyData) : PyData := .tuple [.int pr, .int pk, .tuple ss]
def tripD (p n e : Int) : PyData := .tuple [.int p, .int n, .int e]
def tripsOf : PyData → List PyData
  | .tuple [_, .int n, .int e, .tuple ps] => ps.map fun p => .tuple [p, .int n, .int e]
  | _ => []
theorem trips_sit {t n e : Int} {ps : List Int} : tripsOf (sitD t n e ps) = ps.map fun p => tripD p n e := by
  show (ps.map PyData.int).map _ = _
  rw [List.map_map]
  rfl
/-- a play at the pack p with the pair i -/
def seatAt (i p : Int) : PyData → Bool
  | .tuple [.int q, .int n, .int e] => q == p && (i == n || i == e)
  | _ => false
def seatN (i p : Int) (fs : List PyData) : Nat := (fs.flatMap tripsOf).countP (seatAt i p)
def neS : PyData → Bool
  | .tuple [_, .int n, .int e, _] => !(n == e)
  | _ => false
structure Fit (fs : List PyData) : Prop where
  ne : ∀ s ∈ fs, neS s = true
  one : ∀ i p : Int, seatN i p fs ≤ 1
theorem seat_nil (i p : Int) : seatN i p [] = 0 := rfl
theorem seat_append (i p : Int) (fs gs : List PyData) : seatN i p (fs ++ gs) = seatN i p fs + seatN i p gs := by
  unfold seatN
  rw [List.flatMap_append, List.countP_append]
theorem seat_cons (i p : Int) (f : PyData) (gs : List PyData) : seatN i p (f :: gs) = seatN i p [f] + seatN i p gs := seat_append i p [f] gs
theorem fit_nil : Fit [] := ⟨fun _ z => (nomatch z), fun i p => Nat.zero_le _⟩
theorem Fit.perm {fs gs : List PyData} (h : Fit fs) (q : gs.Perm fs) : Fit gs :=
  ⟨fun s hs => h.ne s (q.mem_iff.mp hs), fun i p => by
    have := h.one i p
    unfold seatN at this ⊢
    rw [(q.flatMap_right tripsOf).countP_eq]
    exact this⟩
theorem Fit.sub {fs gs : List PyData} (h : Fit fs) (q : gs.Sublist fs) : Fit gs :=
  ⟨fun s hs => h.ne s (q.subset hs), fun i p => by
    refine Nat.le_trans ?_ (h.one i p)
    clear h
    induction q with
    | slnil => exact Nat.le_refl _
    | cons a _ ih =>
      rename_i l1 l2 _
      rw [seat_cons i p a l2]
      omega
    | cons_cons a _ ih =>
      rename_i l1 l2 _
      rw [seat_cons i p a l1, seat_cons i p a l2]
      omega⟩
theorem Fit.sorted {fs : List PyData} (h : Fit fs) : Fit (fs.mergeSort dle) := h.perm (List.mergeSort_perm fs dle)
theorem seat_one (i p t n e : Int) (ps : List Int) : seatN i p [sitD t n e ps] = ps.countP fun q => q == p && (i == n || i == e) := by
  unfold seatN
  rw [List.flatMap_cons, List.flatMap_nil, List.append_nil, trips_sit, List.countP_map]
  rfl
theorem once {ps : List Int} (h : ps.Nodup) (p : Int) : ps.countP (fun q => q == p) ≤ 1 := by
  induction ps with
  | nil => exact Nat.zero_le _
  | cons q ps ih =>
    have h := List.nodup_cons.mp h
    rw [List.countP_cons]
    split
    · rename_i e
      have e := eq_of_beq e
      subst e
      rw [List.countP_eq_zero.mpr fun (u : Int) hu e => h.1 (by rw [← eq_of_beq e]; exact hu)]
      exact Nat.le_refl _
    · exact ih h.2
theorem seat_le {i p t n e : Int} {ps : List Int} (h : ps.Nodup) : seatN i p [sitD t n e ps] ≤ 1 := by
  rw [seat_one]
  refine Nat.le_trans (List.countP_mono_left (q := fun q => q == p) fun q _ hq => ?_) ?_
  · simp only [Bool.and_eq_true] at hq
    exact hq.1
  · exact once h p
/-- no pair sits at both with one pack -/
def Apart (s x : PyData) : Prop := ∀ i p : Int, seatN i p [s] = 0 ∨ seatN i p [x] = 0
theorem apart_sides {t n e t' n' e' : Int} {ps ps' : List Int} (g1 : (n == n' || e == n') = false) (g2 : (n == e' || e == e') = false) : Apart (sitD t' n' e' ps') (sitD t n e ps) := fun i p => by
  have h1 : (n' == n || n' == e) = false := by
    simp only [Bool.or_eq_false_iff, beq_eq_false_iff_ne] at g1 ⊢
    exact ⟨fun z => g1.1 z.symm, fun z => g1.2 z.symm⟩
  have h2 : (e' == n || e' == e) = false := by
    simp only [Bool.or_eq_false_iff, beq_eq_false_iff_ne] at g2 ⊢
    exact ⟨fun z => g2.1 z.symm, fun z => g2.2 z.symm⟩
  rw [seat_one, seat_one, List.countP_eq_zero, List.countP_eq_zero]
  by_cases h : i = n' ∨ i = e'
  · refine .inr fun q _ => ?_
    rcases h with rfl | rfl
    · simp [h1]
    · simp [h2]
  · refine .inl fun q _ => ?_
    have : (i == n' || i == e') = false := by
      simp only [Bool.or_eq_false_iff, beq_eq_false_iff_ne]
      exact ⟨fun z => h (.inl z), fun z => h (.inr z)⟩
    simp [this]
theorem apart_packs {t n e t' n' e' : Int} {ps ps' : List Int} (h : ∀ p ∈ ps', p ∉ ps) : Apart (sitD t' n' e' ps') (sitD t n e ps) := fun i p => by
  rw [seat_one, seat_one, List.countP_eq_zero, List.countP_eq_zero]
  by_cases hp : p ∈ ps'
  · refine .inr fun q hq => ?_
    have : (q == p) = false := beq_eq_false_iff_ne.mpr fun z => h p hp (z ▸ hq)
    simp [this]
  · refine .inl fun q hq => ?_
    have : (q == p) = false := beq_eq_false_iff_ne.mpr fun z => hp (z ▸ hq)
    simp [this]
theorem Fit.add {fs : List PyData} {t n e : Int} {ps : List Int} (h : Fit fs) (hne : n ≠ e) (hn : ps.Nodup) (ha : ∀ x ∈ fs, Apart (sitD t n e ps) x) : Fit (fs ++ [sitD t n e ps]) :=
  ⟨fun s hs => by
    rcases List.mem_append.mp hs with z | z
    · exact h.ne s z
    · rw [List.mem_singleton.mp z]
      show (!(n == e)) = true
      simpa using hne, fun i p => by
    rw [seat_append]
    have h1 := h.one i p
    have h2 : seatN i p [sitD t n e ps] ≤ 1 := seat_le hn
    by_cases h3 : seatN i p [sitD t n e ps] = 0
    · omega
    · have h4 : ∀ gs : List PyData, (∀ x ∈ gs, Apart (sitD t n e ps) x) → seatN i p gs = 0 := fun gs hg => by
        induction gs with
        | nil => rfl
        | cons x gs ih =>
          rw [seat_cons, ih fun y hy => hg y (by simp [hy])]
          have := hg x (by simp) i p
          omega
      rw [h4 fs ha]
      omega⟩
/-- the lesser side first -/
def norm : PyData → PyData
  | .tuple [t, .int n, .int e, ps] => if n ≤ e then .tuple [t, .int n, .int e, ps] else .tuple [t, .int e, .int n, ps]
  | d => d
theorem norm_swap (t n e : Int) (ps : List Int) : norm (sitD t n e ps) = norm (sitD t e n ps) := by
  unfold norm sitD
  show (if n ≤ e then _ else _) = (if e ≤ n then _ else _)
  by_cases h : n ≤ e
  · by_cases h' : e ≤ n
    · have : n = e := by omega
      subst this
      rfl
    · rw [if_pos h, if_neg h']
  · rw [if_neg h, if_pos (by omega)]
theorem norm_ne (d : PyData) : neS (norm d) = neS d := by
  unfold norm
  split
  · split
    · rfl
    · show (!(_ == _)) = (!(_ == _))
      rw [Bool.beq_comm]
  · rfl
theorem norm_seat (i p : Int) (d : PyData) : (tripsOf (norm d)).countP (seatAt i p) = (tripsOf d).countP (seatAt i p) := by
  unfold norm
  split
  · rename_i t n e ps
    split
    · rfl
    · cases ps with
      | tuple qs =>
        show (qs.map fun q => PyData.tuple [q, .int e, .int n]).countP (seatAt i p) = (qs.map fun q => PyData.tuple [q, .int n, .int e]).countP (seatAt i p)
        rw [List.countP_map, List.countP_map]
        congr 1
        funext q
        show seatAt i p (.tuple [q, .int e, .int n]) = seatAt i p (.tuple [q, .int n, .int e])
        cases q <;> first | rfl | (show (_ && (_ || _)) = (_ && (_ || _)); rw [Bool.or_comm])
      | _ => rfl
  · rfl
theorem seat_norm (i p : Int) : ∀ fs : List PyData, seatN i p (fs.map norm) = seatN i p fs
  | [] => rfl
  | f :: fs => by
    rw [List.map_cons, seat_cons, seat_cons i p f, seat_norm i p fs]
    congr 1
    unfold seatN
    rw [List.flatMap_cons, List.flatMap_nil, List.append_nil, List.flatMap_cons, List.flatMap_nil, List.append_nil]
    exact norm_seat i p f
theorem Fit.norms {fs gs : List PyData} (h : Fit fs) (e : gs.map norm = fs.map norm) : Fit gs :=
  ⟨fun s hs => by
    have : norm s ∈ fs.map norm := e ▸ List.mem_map_of_mem hs
    obtain ⟨x, hx, hxs⟩ := List.mem_map.mp this
    rw [← norm_ne, ← hxs, norm_ne]
    exact h.ne x hx, fun i p => by
    rw [← seat_norm, e, seat_norm]
    exact h.one i p⟩
/-- looked at by reckoning -/
def fitB (pr pk : Nat) (fs : List PyData) : Bool := fs.all neS && (List.range pr).all fun i => (List.range pk).all fun p => decide (seatN (i : Nat) (p : Nat) fs ≤ 1)
theorem seat_out {pr pk i p : Int} {fs : List PyData} (h : ∀ s ∈ fs, Sit pr pk s) (hi : ¬ (0 ≤ i ∧ i < pr ∧ 0 ≤ p ∧ p < pk)) : seatN i p fs = 0 := by
  induction fs with
  | nil => rfl
  | cons s fs ih =>
    rw [seat_cons, ih fun x hx => h x (by simp [hx])]
    obtain ⟨t, n, e, ps, rfl, a1, a2, a3, a4, a5, a6, a7, a8⟩ := h s (by simp)
    rw [seat_one, List.countP_eq_zero.mpr]
    intro q hq
    have := a7 q hq
    simp only [Bool.and_eq_true, Bool.or_eq_true, beq_iff_eq, not_and]
    intro hqp hs
    omega
theorem fit_of {pr pk : Int} {fs : List PyData} (h : ∀ s ∈ fs, Sit pr pk s) (b : fitB pr.toNat pk.toNat fs = true) : Fit fs := by
  unfold fitB at b
  rw [Bool.and_eq_true] at b
  refine ⟨fun s hs => List.all_eq_true.mp b.1 s hs, fun i p => ?_⟩
  by_cases hi : 0 ≤ i ∧ i < pr ∧ 0 ≤ p ∧ p < pk
  · have h1 := List.all_eq_true.mp b.2 i.toNat (List.mem_range.mpr (by omega))
    have h2 := of_decide_eq_true (List.all_eq_true.mp h1 p.toNat (List.mem_range.mpr (by omega)))
    rw [Int.toNat_of_nonneg hi.1, Int.toNat_of_nonneg hi.2.2.1] at h2
    exact h2
  · rw [seat_out h hi]
    exact Nat.zero_le _
theorem flat_len {α β : Type} (f : α → List β) (n : Nat) (h : ∀ a, (f a).length ≤ n) : ∀ l : List α, (l.flatMap f).length ≤ n * l.length
  | [] => Nat.zero_le _
  | x :: l => by
    rw [List.flatMap_cons, List.length_append, List.length_cons, Nat.mul_succ]
    have h1 := h x
    have h2 := flat_len f n h l
    omega
/-! the ring and the moving tables, told at once -/
def ringRow (sz : Int) (t m : Nat) : List PyData := sitD t (2 * sz - 1) t [(t : Int)] :: (List.range m).map fun j : Nat => sitD t (((t : Int) + (1 + j)) % (2 * sz - 1)) (((t : Int) - (1 + j)) % (2 * sz - 1)) [(t : Int)]
def ringL (sz : Int) (k : Nat) : List PyData := (List.range k).flatMap fun t => ringRow sz t (sz - 1).toNat
def movRow (sz : Int) (t m : Nat) : List PyData := (List.range m).map fun j : Nat => sitD t j (sz + ((j : Int) + t) % sz) [(t : Int)]
def movL (sz : Int) (k : Nat) : List PyData := (List.range k).flatMap fun t => movRow sz t sz.toNat
theorem ring_fit {sz : Int} (h1 : 2 ≤ sz) (h2 : sz ≤ 5) : fitB (2 * sz).toNat (2 * sz - 1).toNat (ringL sz (2 * sz - 1).toNat) = true := by
  have : sz = 2 ∨ sz = 3 ∨ sz = 4 ∨ sz = 5 := by omega
  rcases this with rfl | rfl | rfl | rfl <;> decide +kernel
theorem mov_fit {sz mn : Int} (h1 : 2 ≤ sz) (h2 : sz ≤ 5) (h3 : 1 ≤ mn) (h4 : mn ≤ sz) : fitB (2 * sz).toNat mn.toNat (movL sz mn.toNat) = true := by
  have : sz = 2 ∨ sz = 3 ∨ sz = 4 ∨ sz = 5 := by omega
  have h5 : mn = 1 ∨ mn = 2 ∨ mn = 3 ∨ mn = 4 ∨ mn = 5 := by omega
  rcases this with rfl | rfl | rfl | rfl <;> rcases h5 with rfl | rfl | rfl | rfl | rfl <;> first | (exfalso; omega) | decide +kernel
end Tr
set_option Elab.async false
set_option linter.all false
set_option maxRecDepth 100000
set_option maxHeartbeats 4000000
set_option exponentiation.threshold 3000
namespace Tr
open PySem PySem.Spec PyProof.Rows L2
/-! plans drawn with the deck of three -/
structure PlanOk (pr pk : Int) (ss : List PyData) : Prop where
  p1 : 2 ≤ pr
  p2 : pr ≤ 10
  k1 : 1 ≤ pk
  k2 : pk ≤ 10
  len : ss.length ≤ 60
  sit : ∀ s ∈ ss, Sit pr pk s
  fit : Fit ss
theorem alike_ints : ∀ a b : List Int, PySem.W.alikeAll (a.map .int) (b.map .int) = true
  | [], b => by simp [PySem.W.alikeAll]
  | x :: a, [] => by simp [PySem.W.alikeAll]
  | x :: a, y :: b => by
    show PySem.W.alikeAll (.int x :: a.map .int) (.int y :: b.map .int) = true
    rw [PySem.W.alikeAll, alike_ints a b]
    simp [PySem.W.alike]
theorem alike_sit {pr pk pr' pk' : Int} {a b : PyData} (h : Sit pr pk a) (h' : Sit pr' pk' b) : PySem.W.alike a b = true := by
  obtain ⟨t, n, e, ps, rfl, _⟩ := h
  obtain ⟨t', n', e', ps', rfl, _⟩ := h'
  simp [sitD, PySem.W.alike, PySem.W.alikeAll, alike_ints]
theorem shal_sit {pr pk : Int} {d : PyData} (h : Sit pr pk d) (n : Nat) : shal (n + 2) d = true := by
  obtain ⟨t, m, e, ps, rfl, _⟩ := h
  have := shal_ints n ps
  simp only [sitD, shal, List.all_cons, List.all_nil, this, Bool.and_self]
theorem sits_ok {pr pk : Int} {ss : List PyData} (h : ∀ s ∈ ss, Sit pr pk s) : SortOk ss where
  al := fun a ha b hb => alike_sit (h a ha) (h b hb)
  so := .inl fun d hd => by
    obtain ⟨t, n, e, ps, rfl, _⟩ := h d hd
    exact ⟨_, _, rfl⟩
  sh := fun x hx => shal_sit (h x hx) 28
theorem b_sorted {ds : List PyData} {R : Tv → Prop} (h : SortOk ds) (q : R (.own ((ds.mergeSort dle).map .d))) : bltO .sorted [.own (ds.map .d)] R := ⟨_, ds, rfl, f_own, h, q⟩
theorem b_sortedD {ds : List PyData} {R : Tv → Prop} (h : SortOk ds) (q : R (.own ((ds.mergeSort dle).map .d))) : bltO .sorted [.d (.list ds)] R := ⟨_, ds, rfl, rfl, h, q⟩
theorem b_listT {ds : List PyData} {R : Tv → Prop} : bltO .list [.d (.tuple ds)] R = R (.own (ds.map .d)) := by
  refine propext ⟨fun ⟨x, d, xs, h1, h2, h3, h⟩ => ?_, fun h => ⟨_, _, _, rfl, rfl, rfl, h⟩⟩
  cases h1
  cases h2
  cases h3
  exact h
theorem c_inT {a : PyData} {xs : List PyData} {R : Bool → Prop} (h1 : shal 30 a = true) (h2 : xs.all (shal 29) = true) (q : R (xs.any fun y => PyData.eqv y a)) : cmpO .inn (.d a) (.d (.tuple xs)) R :=
  ⟨_, _, rfl, rfl, h1, by simpa [shal] using h2, q⟩
theorem fz1 {a : PyData} : frzs [.d a] = some [a] := rfl
theorem fz2 {a b : PyData} : frzs [.d a, .d b] = some [a, b] := rfl
theorem fz3 {a b c : PyData} : frzs [.d a, .d b, .d c] = some [a, b, c] := rfl
theorem fz4 {a b c d : PyData} : frzs [.d a, .d b, .d c, .d d] = some [a, b, c, d] := rfl
theorem at3 {α : Type} {x y z u : α} {xs : List α} : atI (x :: y :: z :: u :: xs) 3 = some u := atI_nat (j := 3) rfl
theorem cut13 {α : Type} {a b c d : α} : cutD [a, b, c, d] (some 1) (some 3) = [b, c] := rfl
theorem s_tup {xs : List PyData} {lo hi : Option Int} {R : Tv → Prop} : sliceO (.d (.tuple xs)) lo hi R = R (.d (.tuple (cutD xs lo hi))) := rfl
/-! can a sitting be added -/
def bCanSit : SL := (.cons (.for_ (.name 2) (.seq (.sim (.var 1)))
  (.cons (.ite (.or_ (.cons (.cmp .inn (.sim (.idx (.var 0) (.int 1))) (.slice (.sim (.var 2)) (.som (.sim (.int 1))) (.som (.sim (.int 3))))) (.cons (.cmp .inn (.sim (.idx (.var 0) (.int 2))) (.slice (.sim (.var 2)) (.som (.sim (.int 1))) (.som (.sim (.int 3))))) .nil)))
  (.cons (.ite (.or_ (.cons (.cmp .eq (.sim (.idx (.var 0) (.int 0))) (.sim (.idx (.var 2) (.int 0)))) (.cons (.cmp .ne (.lc (.sim (.var 3)) (.name 3) (.seq (.sim (.idx (.var 0) (.int 3)))) (.som (.cmp .inn (.sim (.var 3)) (.sim (.idx (.var 2) (.int 3))))) [3]) (.lst .nil)) .nil)))
  (.cons (.ret (.sim (.bl false)))
  .nil)
  .nil)
  .nil)
  .nil)
  .nil)
  [2])
  (.cons (.ret (.sim (.bl true)))
  .nil))
def spCanSit : FS := fun xs Q => ∃ pr pk s ss, xs = [.d s, .d (.list ss)] ∧ Sit pr pk s ∧ (∀ x ∈ ss, Sit pr pk x) ∧ ∀ b rest, (b = true → ∀ x ∈ ss, Apart s x) → Q (.d (.bool b)) rest
theorem shal_int2 (k : Nat) (a b : Int) : [PyData.int a, PyData.int b].all (shal k) = true := shal_ints k [a, b]
theorem shal_int (k : Nat) (a : Int) : shal k (.int a) = true := by cases k <;> rfl
theorem any_in (a n e : Int) : ([PyData.int n, PyData.int e].any fun y => PyData.eqv y (.int a)) = (n == a || e == a) := by
  show ((n == a) || ((e == a) || false)) = _
  rw [Bool.or_false]
theorem any_ints (a : Int) (ps : List Int) : ((ps.map PyData.int).any fun y => PyData.eqv y (.int a)) = decide (a ∈ ps) := by
  induction ps with
  | nil => rfl
  | cons p ps ih =>
    show ((p == a) || _) = _
    rw [ih]
    by_cases h : p = a
    · subst h
      simp
    · have : a ≠ p := fun z => h z.symm
      simp [h, this]
theorem filter_st {α : Type} (f : α → Bool) {l : List α} {k : Nat} {x : α} (h : l[k]? = some x) (e : f x = true) : (l.take (k + 1)).filter f = (l.take k).filter f ++ [x] := by
  rw [take_snoc h, List.filter_append]
  congr 1
  simp [e]
theorem filter_sf {α : Type} (f : α → Bool) {l : List α} {k : Nat} {x : α} (h : l[k]? = some x) (e : f x = false) : (l.take (k + 1)).filter f = (l.take k).filter f := by
  rw [take_snoc h, List.filter_append]
  simp [e]
theorem take_mem {α : Type} {P : α → Prop} {l : List α} {k : Nat} {x : α} (h : ∀ y ∈ l.take k, P y) (e : l[k]? = some x) (hx : P x) : ∀ y ∈ l.take (k + 1), P y := fun y hy => by
  rw [take_snoc e] at hy
  rcases List.mem_append.mp hy with z | z
  · exact h y z
  · rw [List.mem_singleton.mp z]
    exact hx
theorem ok_canSit {Γ : Gam} {Φ : Phi} : ∀ xs Q, spCanSit xs Q → fsOf Γ Φ 2 4 bCanSit xs Q := by
  rintro xs Q ⟨pr, pk, s, ss, rfl, hs, hss, hq⟩
  refine ⟨rfl, ?_⟩
  obtain ⟨t, n, e, ps, rfl, _, _, _, _, _, _, _, hps8⟩ := hs
  rw [bCanSit, r_cons]
  simp only [r_nil, r_set, r_unp, r_par, r_ix1, r_ix2, r_ixp, r_ixe, r_app, r_ext, r_expr, r_ret, r_retv, r_retN, r_if, r_for, r_while, r_pass, r_brk, r_cont, q_sim, q_bin, q_neg, q_cmp, q_isN, q_notN, q_chain, q_and, q_or, q_and1, q_and2, q_or1, q_or2, q_not, q_ite, q_tup, q_lst, q_idx, q_slice, q_rev, q_blt1, q_bltv, q_blt2, q_sortset, q_lrng, q_lc, q_pop, q_index, q_es0, q_es1, q_o0, q_o1, q_c0, q_c1, q_seq, q_rng, q_enum, q_zip, g_name, g_tup, g_t0, g_t1, o_add, o_sub, o_mul, o_fdiv, o_mod, o_pow, f_d, f_nil, c_lt, c_le, c_gt, c_ge, c_eq, c_ne, at0, at1, at2, ix0, ix1, ix2, v_var, v_int, v_str, v_bl, v_non, v_glob, v_add, v_sub, v_neg, v_idx, v_len, onV_d, onV_scr, onW_d, onW_scr, onW_own, simR, sv, frzT, E.sim?, E.var?, SE.var?, Tv.item, Tv.len, PyData.itemsOf, List.map_cons, List.map_nil, List.replicate, List.cons_append, List.nil_append, List.length_cons, List.length_nil, List.set_cons_zero, List.set_cons_succ, List.getElem?_cons_zero, List.getElem?_cons_succ, Option.join_some, Option.some.injEq, Option.map_some, exists_eq', exists_eq, exists_eq_left', exists_eq_left, exists_and_left, Option.bind_some, Option.bind_eq_bind, Option.pure_def, wipeR, restR, keepD, Tv.d.injEq, Tv.own.injEq, PyData.int.injEq, PyData.bool.injEq, PyData.tuple.injEq, PyData.list.injEq, PyData.str.injEq, List.cons.injEq, and_true, if_tt, if_ff, Option.bind_none, Option.getD_none, Option.getD_some, Int.sub_zero, Int.zero_add, and_assoc, true_and, exists_const, Nat.reduceAdd, Nat.reduceLT, Nat.reduceSub, Nat.zero_add]
  refine ⟨fun k ρ => (∀ x ∈ ss.take k, Apart (sitD t n e ps) x) ∧ ρ = [some (.d (sitD t n e ps)), some (.d (.list ss)), none, none], ⟨fun _ z => (nomatch z), rfl⟩, ?_, ?_⟩
  · rintro k x ρ2 hx ⟨hap, rfl⟩
    obtain ⟨t', n', e', ps', rfl, _⟩ := hss x (List.mem_of_getElem? hx)
    have hx' : ss[k]? = some (sitD t' n' e' ps') := hx
    simp only [sitD, r_nil, r_set, r_unp, r_par, r_ix1, r_ix2, r_ixp, r_ixe, r_app, r_ext, r_expr, r_ret, r_retv, r_retN, r_if, r_for, r_while, r_pass, r_brk, r_cont, q_sim, q_bin, q_neg, q_cmp, q_isN, q_notN, q_chain, q_and, q_or, q_and1, q_and2, q_or1, q_or2, q_not, q_ite, q_tup, q_lst, q_idx, q_slice, q_rev, q_blt1, q_bltv, q_blt2, q_sortset, q_lrng, q_lc, q_pop, q_index, q_es0, q_es1, q_o0, q_o1, q_c0, q_c1, q_seq, q_rng, q_enum, q_zip, g_name, g_tup, g_t0, g_t1, o_add, o_sub, o_mul, o_fdiv, o_mod, o_pow, f_d, f_nil, c_lt, c_le, c_gt, c_ge, c_eq, c_ne, at0, at1, at2, ix0, ix1, ix2, v_var, v_int, v_str, v_bl, v_non, v_glob, v_add, v_sub, v_neg, v_idx, v_len, onV_d, onV_scr, onW_d, onW_scr, onW_own, simR, sv, frzT, E.sim?, E.var?, SE.var?, Tv.item, Tv.len, PyData.itemsOf, List.map_cons, List.map_nil, List.replicate, List.cons_append, List.nil_append, List.length_cons, List.length_nil, List.set_cons_zero, List.set_cons_succ, List.getElem?_cons_zero, List.getElem?_cons_succ, Option.join_some, Option.some.injEq, Option.map_some, exists_eq', exists_eq, exists_eq_left', exists_eq_left, exists_and_left, Option.bind_some, Option.bind_eq_bind, Option.pure_def, wipeR, restR, keepD, Tv.d.injEq, Tv.own.injEq, PyData.int.injEq, PyData.bool.injEq, PyData.tuple.injEq, PyData.list.injEq, PyData.str.injEq, List.cons.injEq, and_true, if_tt, if_ff, Option.bind_none, Option.getD_none, Option.getD_some, Int.sub_zero, Int.zero_add, and_assoc, true_and, exists_const, Nat.reduceAdd, Nat.reduceLT, Nat.reduceSub, Nat.zero_add]
    rw [r_cons]
    simp only [at3, s_tup, cut13, r_nil, r_set, r_unp, r_par, r_ix1, r_ix2, r_ixp, r_ixe, r_app, r_ext, r_expr, r_ret, r_retv, r_retN, r_if, r_for, r_while, r_pass, r_brk, r_cont, q_sim, q_bin, q_neg, q_cmp, q_isN, q_notN, q_chain, q_and, q_or, q_and1, q_and2, q_or1, q_or2, q_not, q_ite, q_tup, q_lst, q_idx, q_slice, q_rev, q_blt1, q_bltv, q_blt2, q_sortset, q_lrng, q_lc, q_pop, q_index, q_es0, q_es1, q_o0, q_o1, q_c0, q_c1, q_seq, q_rng, q_enum, q_zip, g_name, g_tup, g_t0, g_t1, o_add, o_sub, o_mul, o_fdiv, o_mod, o_pow, f_d, f_nil, c_lt, c_le, c_gt, c_ge, c_eq, c_ne, at0, at1, at2, ix0, ix1, ix2, v_var, v_int, v_str, v_bl, v_non, v_glob, v_add, v_sub, v_neg, v_idx, v_len, onV_d, onV_scr, onW_d, onW_scr, onW_own, simR, sv, frzT, E.sim?, E.var?, SE.var?, Tv.item, Tv.len, PyData.itemsOf, List.map_cons, List.map_nil, List.replicate, List.cons_append, List.nil_append, List.length_cons, List.length_nil, List.set_cons_zero, List.set_cons_succ, List.getElem?_cons_zero, List.getElem?_cons_succ, Option.join_some, Option.some.injEq, Option.map_some, exists_eq', exists_eq, exists_eq_left', exists_eq_left, exists_and_left, Option.bind_some, Option.bind_eq_bind, Option.pure_def, wipeR, restR, keepD, Tv.d.injEq, Tv.own.injEq, PyData.int.injEq, PyData.bool.injEq, PyData.tuple.injEq, PyData.list.injEq, PyData.str.injEq, List.cons.injEq, and_true, if_tt, if_ff, Option.bind_none, Option.getD_none, Option.getD_some, Int.sub_zero, Int.zero_add, and_assoc, true_and, exists_const, Nat.reduceAdd, Nat.reduceLT, Nat.reduceSub, Nat.zero_add]
    refine c_inT (shal_int _ _) (shal_int2 _ _ _) (if_l (fun _ => ?a1) fun h1 => c_inT (shal_int _ _) (shal_int2 _ _ _) (if_l (fun _ => ?a2) fun h2 => ?b))
    case b =>
      rw [any_in] at h1 h2
      exact take_mem hap hx' (apart_sides h1 h2)
    all_goals
      simp only [at3, r_nil, r_cons, r_set, r_unp, r_par, r_ix1, r_ix2, r_ixp, r_ixe, r_app, r_ext, r_expr, r_ret, r_retv, r_retN, r_if, r_for, r_while, r_pass, r_brk, r_cont, q_sim, q_bin, q_neg, q_cmp, q_isN, q_notN, q_chain, q_and, q_or, q_and1, q_and2, q_or1, q_or2, q_not, q_ite, q_tup, q_lst, q_idx, q_slice, q_rev, q_blt1, q_bltv, q_blt2, q_sortset, q_lrng, q_lc, q_pop, q_index, q_es0, q_es1, q_o0, q_o1, q_c0, q_c1, q_seq, q_rng, q_enum, q_zip, g_name, g_tup, g_t0, g_t1, o_add, o_sub, o_mul, o_fdiv, o_mod, o_pow, f_d, f_nil, c_lt, c_le, c_gt, c_ge, c_eq, c_ne, at0, at1, at2, ix0, ix1, ix2, v_var, v_int, v_str, v_bl, v_non, v_glob, v_add, v_sub, v_neg, v_idx, v_len, onV_d, onV_scr, onW_d, onW_scr, onW_own, simR, sv, frzT, E.sim?, E.var?, SE.var?, Tv.item, Tv.len, PyData.itemsOf, List.map_cons, List.map_nil, List.replicate, List.cons_append, List.nil_append, List.length_cons, List.length_nil, List.set_cons_zero, List.set_cons_succ, List.getElem?_cons_zero, List.getElem?_cons_succ, Option.join_some, Option.some.injEq, Option.map_some, exists_eq', exists_eq, exists_eq_left', exists_eq_left, exists_and_left, Option.bind_some, Option.bind_eq_bind, Option.pure_def, wipeR, restR, keepD, Tv.d.injEq, Tv.own.injEq, PyData.int.injEq, PyData.bool.injEq, PyData.tuple.injEq, PyData.list.injEq, PyData.str.injEq, List.cons.injEq, and_true, if_tt, if_ff, Option.bind_none, Option.getD_none, Option.getD_some, Int.sub_zero, Int.zero_add, and_assoc, true_and, exists_const, Nat.reduceAdd, Nat.reduceLT, Nat.reduceSub, Nat.zero_add]
      refine if_l (fun _ => hq _ _ fun z => (nomatch z)) fun _ => ⟨fun j acc ρ => acc = (((ps.take j).filter fun p => decide (p ∈ ps')).map PyData.int).map Tv.d ∧ ρ = [some (.d (sitD t n e ps)), some (.d (.list ss)), some (.d (sitD t' n' e' ps')), none], ⟨rfl, rfl⟩, ?_, ?_⟩
      · rintro j y acc ρ2 hy ⟨rfl, rfl⟩
        have hj := (List.getElem?_eq_some_iff.mp hy).1
        rw [List.length_map] at hj
        rw [List.getElem?_map] at hy
        obtain ⟨p, hp, rfl⟩ := Option.map_eq_some_iff.mp hy
        have hfl := List.length_filter_le (fun p => decide (p ∈ ps')) (ps.take j)
        rw [List.length_take] at hfl
        simp only [sitD, at3, List.length_map, r_nil, r_cons, r_set, r_unp, r_par, r_ix1, r_ix2, r_ixp, r_ixe, r_app, r_ext, r_expr, r_ret, r_retv, r_retN, r_if, r_for, r_while, r_pass, r_brk, r_cont, q_sim, q_bin, q_neg, q_cmp, q_isN, q_notN, q_chain, q_and, q_or, q_and1, q_and2, q_or1, q_or2, q_not, q_ite, q_tup, q_lst, q_idx, q_slice, q_rev, q_blt1, q_bltv, q_blt2, q_sortset, q_lrng, q_lc, q_pop, q_index, q_es0, q_es1, q_o0, q_o1, q_c0, q_c1, q_seq, q_rng, q_enum, q_zip, g_name, g_tup, g_t0, g_t1, o_add, o_sub, o_mul, o_fdiv, o_mod, o_pow, f_d, f_nil, c_lt, c_le, c_gt, c_ge, c_eq, c_ne, at0, at1, at2, ix0, ix1, ix2, v_var, v_int, v_str, v_bl, v_non, v_glob, v_add, v_sub, v_neg, v_idx, v_len, onV_d, onV_scr, onW_d, onW_scr, onW_own, simR, sv, frzT, E.sim?, E.var?, SE.var?, Tv.item, Tv.len, PyData.itemsOf, List.map_cons, List.map_nil, List.replicate, List.cons_append, List.nil_append, List.length_cons, List.length_nil, List.set_cons_zero, List.set_cons_succ, List.getElem?_cons_zero, List.getElem?_cons_succ, Option.join_some, Option.some.injEq, Option.map_some, exists_eq', exists_eq, exists_eq_left', exists_eq_left, exists_and_left, Option.bind_some, Option.bind_eq_bind, Option.pure_def, wipeR, restR, keepD, Tv.d.injEq, Tv.own.injEq, PyData.int.injEq, PyData.bool.injEq, PyData.tuple.injEq, PyData.list.injEq, PyData.str.injEq, List.cons.injEq, and_true, if_tt, if_ff, Option.bind_none, Option.getD_none, Option.getD_some, Int.sub_zero, Int.zero_add, and_assoc, true_and, exists_const, Nat.reduceAdd, Nat.reduceLT, Nat.reduceSub, Nat.zero_add]
        refine c_inT (shal_int _ _) (shal_ints _ _) ?_
        rw [any_ints]
        refine ⟨fun h2 => ⟨small64 (by omega), ?_⟩, fun h2 => ?_⟩
        · rw [filter_st (fun p => decide (p ∈ ps')) hp h2, List.map_append, List.map_append]
          rfl
        · rw [filter_sf (fun p => decide (p ∈ ps')) hp h2]
      · rintro acc ρ2 ⟨rfl, rfl⟩
        simp only [r_nil, r_cons, r_set, r_unp, r_par, r_ix1, r_ix2, r_ixp, r_ixe, r_app, r_ext, r_expr, r_ret, r_retv, r_retN, r_if, r_for, r_while, r_pass, r_brk, r_cont, q_sim, q_bin, q_neg, q_cmp, q_isN, q_notN, q_chain, q_and, q_or, q_and1, q_and2, q_or1, q_or2, q_not, q_ite, q_tup, q_lst, q_idx, q_slice, q_rev, q_blt1, q_bltv, q_blt2, q_sortset, q_lrng, q_lc, q_pop, q_index, q_es0, q_es1, q_o0, q_o1, q_c0, q_c1, q_seq, q_rng, q_enum, q_zip, g_name, g_tup, g_t0, g_t1, o_add, o_sub, o_mul, o_fdiv, o_mod, o_pow, f_d, f_nil, c_lt, c_le, c_gt, c_ge, c_eq, c_ne, at0, at1, at2, ix0, ix1, ix2, v_var, v_int, v_str, v_bl, v_non, v_glob, v_add, v_sub, v_neg, v_idx, v_len, onV_d, onV_scr, onW_d, onW_scr, onW_own, simR, sv, frzT, E.sim?, E.var?, SE.var?, Tv.item, Tv.len, PyData.itemsOf, List.map_cons, List.map_nil, List.replicate, List.cons_append, List.nil_append, List.length_cons, List.length_nil, List.set_cons_zero, List.set_cons_succ, List.getElem?_cons_zero, List.getElem?_cons_succ, Option.join_some, Option.some.injEq, Option.map_some, exists_eq', exists_eq, exists_eq_left', exists_eq_left, exists_and_left, Option.bind_some, Option.bind_eq_bind, Option.pure_def, wipeR, restR, keepD, Tv.d.injEq, Tv.own.injEq, PyData.int.injEq, PyData.bool.injEq, PyData.tuple.injEq, PyData.list.injEq, PyData.str.injEq, List.cons.injEq, and_true, if_tt, if_ff, Option.bind_none, Option.getD_none, Option.getD_some, Int.sub_zero, Int.zero_add, and_assoc, true_and, exists_const, Nat.reduceAdd, Nat.reduceLT, Nat.reduceSub, Nat.zero_add]
        rw [List.length_map, List.take_length]
        refine c_neNil (shal_ints _ _) (if_l (fun _ => hq _ _ fun z => (nomatch z)) fun h3 => ?_)
        refine ⟨take_mem hap hx' (apart_packs fun p hp hp' => ?_), rfl⟩
        have : p ∈ ps.filter fun p => decide (p ∈ ps') := List.mem_filter.mpr ⟨hp, decide_eq_true hp'⟩
        cases h4 : ps.filter fun p => decide (p ∈ ps') with
        | nil => rw [h4] at this; cases this
        | cons u v => rw [h4] at h3; cases h3
  · rintro ρ2 ⟨hap, rfl⟩
    rw [List.take_length] at hap
    simp only [r_nil, r_cons, r_set, r_unp, r_par, r_ix1, r_ix2, r_ixp, r_ixe, r_app, r_ext, r_expr, r_ret, r_retv, r_retN, r_if, r_for, r_while, r_pass, r_brk, r_cont, q_sim, q_bin, q_neg, q_cmp, q_isN, q_notN, q_chain, q_and, q_or, q_and1, q_and2, q_or1, q_or2, q_not, q_ite, q_tup, q_lst, q_idx, q_slice, q_rev, q_blt1, q_bltv, q_blt2, q_sortset, q_lrng, q_lc, q_pop, q_index, q_es0, q_es1, q_o0, q_o1, q_c0, q_c1, q_seq, q_rng, q_enum, q_zip, g_name, g_tup, g_t0, g_t1, o_add, o_sub, o_mul, o_fdiv, o_mod, o_pow, f_d, f_nil, c_lt, c_le, c_gt, c_ge, c_eq, c_ne, at0, at1, at2, ix0, ix1, ix2, v_var, v_int, v_str, v_bl, v_non, v_glob, v_add, v_sub, v_neg, v_idx, v_len, onV_d, onV_scr, onW_d, onW_scr, onW_own, simR, sv, frzT, E.sim?, E.var?, SE.var?, Tv.item, Tv.len, PyData.itemsOf, List.map_cons, List.map_nil, List.replicate, List.cons_append, List.nil_append, List.length_cons, List.length_nil, List.set_cons_zero, List.set_cons_succ, List.getElem?_cons_zero, List.getElem?_cons_succ, Option.join_some, Option.some.injEq, Option.map_some, exists_eq', exists_eq, exists_eq_left', exists_eq_left, exists_and_left, Option.bind_some, Option.bind_eq_bind, Option.pure_def, wipeR, restR, keepD, Tv.d.injEq, Tv.own.injEq, PyData.int.injEq, PyData.bool.injEq, PyData.tuple.injEq, PyData.list.injEq, PyData.str.injEq, List.cons.injEq, and_true, if_tt, if_ff, Option.bind_none, Option.getD_none, Option.getD_some, Int.sub_zero, Int.zero_add, and_assoc, true_and, exists_const, Nat.reduceAdd, Nat.reduceLT, Nat.reduceSub, Nat.zero_add]
    exact hq _ _ fun _ => hap
/-! the plan of moving tables -/
def bMoving3 : SL := (.cons (.set 2 (.lst .nil))
  (.cons (.for_ (.name 3) (.rng .non (.sim (.var 1)))
  (.cons (.ext 2 (.lc (.tup (.cons (.sim (.var 3)) (.cons (.sim (.var 4)) (.cons (.bin .add (.sim (.var 0)) (.bin .mod (.bltv .int (.bin .add (.sim (.var 4)) (.sim (.var 3)))) (.sim (.var 0)))) (.cons (.tup (.cons (.sim (.var 3)) .nil)) .nil))))) (.name 4) (.rng .non (.sim (.var 0))) .non [4]))
  .nil)
  [3])
  (.cons (.ret (.tup (.cons (.bin .mul (.sim (.int 2)) (.sim (.var 0))) (.cons (.sim (.var 1)) (.cons (.blt1 .tuple (.blt1 .sorted (.sim (.var 2)))) .nil)))))
  .nil)))
def spMoving3 : FS := fun xs Q => ∃ sz mn : Int, xs = [.d (.int sz), .d (.int mn)] ∧ 2 ≤ sz ∧ sz ≤ 5 ∧ 1 ≤ mn ∧ mn ≤ sz ∧ ∀ ss rest, PlanOk (2 * sz) mn ss → Q (.d (planD (2 * sz) mn ss)) rest
theorem plan_sorted {pr pk : Int} {fs : List PyData} (p1 : 2 ≤ pr) (p2 : pr ≤ 10) (k1 : 1 ≤ pk) (k2 : pk ≤ 10) (len : fs.length ≤ 60) (h : ∀ f ∈ fs, Sit pr pk f) (hf : Fit fs) : PlanOk pr pk (fs.mergeSort dle) :=
  ⟨p1, p2, k1, k2, by rw [List.length_mergeSort]; exact len, fun s hs => h s (List.mem_mergeSort.mp hs), hf.sorted⟩
theorem ok_moving3 {Γ : Gam} {Φ : Phi} : ∀ xs Q, spMoving3 xs Q → fsOf Γ Φ 2 5 bMoving3 xs Q := by
  rintro xs Q ⟨sz, mn, rfl, h1, h2, h3, h4, hq⟩
  refine ⟨rfl, ?_⟩
  rw [bMoving3, r_cons]
  simp only [r_nil, r_set, r_unp, r_par, r_ix1, r_ix2, r_ixp, r_ixe, r_app, r_ext, r_expr, r_ret, r_retv, r_retN, r_if, r_for, r_while, r_pass, r_brk, r_cont, q_sim, q_bin, q_neg, q_cmp, q_isN, q_notN, q_chain, q_and, q_or, q_and1, q_and2, q_or1, q_or2, q_not, q_ite, q_tup, q_lst, q_idx, q_slice, q_rev, q_blt1, q_bltv, q_blt2, q_sortset, q_lrng, q_lc, q_pop, q_index, q_es0, q_es1, q_o0, q_o1, q_c0, q_c1, q_seq, q_rng, q_enum, q_zip, g_name, g_tup, g_t0, g_t1, o_add, o_sub, o_mul, o_fdiv, o_mod, o_pow, f_d, f_nil, c_lt, c_le, c_gt, c_ge, c_eq, c_ne, at0, at1, at2, ix0, ix1, ix2, v_var, v_int, v_str, v_bl, v_non, v_glob, v_add, v_sub, v_neg, v_idx, v_len, onV_d, onV_scr, onW_d, onW_scr, onW_own, simR, sv, frzT, E.sim?, E.var?, SE.var?, Tv.item, Tv.len, PyData.itemsOf, List.map_cons, List.map_nil, List.replicate, List.cons_append, List.nil_append, List.length_cons, List.length_nil, List.set_cons_zero, List.set_cons_succ, List.getElem?_cons_zero, List.getElem?_cons_succ, Option.join_some, Option.some.injEq, Option.map_some, exists_eq', exists_eq, exists_eq_left', exists_eq_left, exists_and_left, Option.bind_some, Option.bind_eq_bind, Option.pure_def, wipeR, restR, keepD, Tv.d.injEq, Tv.own.injEq, PyData.int.injEq, PyData.bool.injEq, PyData.tuple.injEq, PyData.list.injEq, PyData.str.injEq, List.cons.injEq, and_true, if_tt, if_ff, Option.bind_none, Option.getD_none, Option.getD_some, Int.sub_zero, Int.zero_add, and_assoc, true_and, exists_const, Nat.reduceAdd, Nat.reduceLT, Nat.reduceSub, Nat.zero_add]
  rw [r_cons]
  simp only [r_nil, r_set, r_unp, r_par, r_ix1, r_ix2, r_ixp, r_ixe, r_app, r_ext, r_expr, r_ret, r_retv, r_retN, r_if, r_for, r_while, r_pass, r_brk, r_cont, q_sim, q_bin, q_neg, q_cmp, q_isN, q_notN, q_chain, q_and, q_or, q_and1, q_and2, q_or1, q_or2, q_not, q_ite, q_tup, q_lst, q_idx, q_slice, q_rev, q_blt1, q_bltv, q_blt2, q_sortset, q_lrng, q_lc, q_pop, q_index, q_es0, q_es1, q_o0, q_o1, q_c0, q_c1, q_seq, q_rng, q_enum, q_zip, g_name, g_tup, g_t0, g_t1, o_add, o_sub, o_mul, o_fdiv, o_mod, o_pow, f_d, f_nil, c_lt, c_le, c_gt, c_ge, c_eq, c_ne, at0, at1, at2, ix0, ix1, ix2, v_var, v_int, v_str, v_bl, v_non, v_glob, v_add, v_sub, v_neg, v_idx, v_len, onV_d, onV_scr, onW_d, onW_scr, onW_own, simR, sv, frzT, E.sim?, E.var?, SE.var?, Tv.item, Tv.len, PyData.itemsOf, List.map_cons, List.map_nil, List.replicate, List.cons_append, List.nil_append, List.length_cons, List.length_nil, List.set_cons_zero, List.set_cons_succ, List.getElem?_cons_zero, List.getElem?_cons_succ, Option.join_some, Option.some.injEq, Option.map_some, exists_eq', exists_eq, exists_eq_left', exists_eq_left, exists_and_left, Option.bind_some, Option.bind_eq_bind, Option.pure_def, wipeR, restR, keepD, Tv.d.injEq, Tv.own.injEq, PyData.int.injEq, PyData.bool.injEq, PyData.tuple.injEq, PyData.list.injEq, PyData.str.injEq, List.cons.injEq, and_true, if_tt, if_ff, Option.bind_none, Option.getD_none, Option.getD_some, Int.sub_zero, Int.zero_add, and_assoc, true_and, exists_const, Nat.reduceAdd, Nat.reduceLT, Nat.reduceSub, Nat.zero_add]
  have hML : ∀ k : Nat, (k : Int) ≤ mn → (movL sz k).length ≤ 5 * k ∧ ∀ f ∈ movL sz k, Sit (2 * sz) mn f := fun k hk => by
    refine ⟨?_, fun f hf => ?_⟩
    · have := flat_len (fun t => movRow sz t sz.toNat) 5 (fun t => by unfold movRow; rw [List.length_map, List.length_range]; omega) (List.range k)
      rw [List.length_range] at this
      exact this
    · obtain ⟨t, ht, hf⟩ := List.mem_flatMap.mp hf
      obtain ⟨j, hj, rfl⟩ := List.mem_map.mp hf
      have ht := List.mem_range.mp ht
      have hj := List.mem_range.mp hj
      have m1 := Int.emod_nonneg ((j : Int) + t) (show sz ≠ 0 by omega)
      have m2 := Int.emod_lt_of_pos ((j : Int) + t) (show 0 < sz by omega)
      exact ⟨_, _, _, _, rfl, by omega, by omega, by omega, by omega, by omega, by omega, fun p hp => by
        have e := List.mem_singleton.mp hp
        omega, by simp⟩
  refine ⟨by decide, by decide, by omega, by omega, fun k ρ => ρ = [some (.d (.int sz)), some (.d (.int mn)), some (.own ((movL sz k).map .d)), none, none], rfl, ?_, ?_⟩
  · rintro k x ρ2 hx rfl
    have hk := (List.getElem?_eq_some_iff.mp hx).1
    simp only [List.length_map, List.length_range] at hk
    simp only [List.getElem?_map, List.getElem?_range hk, Option.map_some, Option.some.injEq] at hx
    subst hx
    have hl := (hML k (by omega)).1
    simp only [r_nil, r_cons, r_set, r_unp, r_par, r_ix1, r_ix2, r_ixp, r_ixe, r_app, r_ext, r_expr, r_ret, r_retv, r_retN, r_if, r_for, r_while, r_pass, r_brk, r_cont, q_sim, q_bin, q_neg, q_cmp, q_isN, q_notN, q_chain, q_and, q_or, q_and1, q_and2, q_or1, q_or2, q_not, q_ite, q_tup, q_lst, q_idx, q_slice, q_rev, q_blt1, q_bltv, q_blt2, q_sortset, q_lrng, q_lc, q_pop, q_index, q_es0, q_es1, q_o0, q_o1, q_c0, q_c1, q_seq, q_rng, q_enum, q_zip, g_name, g_tup, g_t0, g_t1, o_add, o_sub, o_mul, o_fdiv, o_mod, o_pow, f_d, f_nil, c_lt, c_le, c_gt, c_ge, c_eq, c_ne, at0, at1, at2, ix0, ix1, ix2, v_var, v_int, v_str, v_bl, v_non, v_glob, v_add, v_sub, v_neg, v_idx, v_len, onV_d, onV_scr, onW_d, onW_scr, onW_own, simR, sv, frzT, E.sim?, E.var?, SE.var?, Tv.item, Tv.len, PyData.itemsOf, List.map_cons, List.map_nil, List.replicate, List.cons_append, List.nil_append, List.length_cons, List.length_nil, List.set_cons_zero, List.set_cons_succ, List.getElem?_cons_zero, List.getElem?_cons_succ, Option.join_some, Option.some.injEq, Option.map_some, exists_eq', exists_eq, exists_eq_left', exists_eq_left, exists_and_left, Option.bind_some, Option.bind_eq_bind, Option.pure_def, wipeR, restR, keepD, Tv.d.injEq, Tv.own.injEq, PyData.int.injEq, PyData.bool.injEq, PyData.tuple.injEq, PyData.list.injEq, PyData.str.injEq, List.cons.injEq, and_true, if_tt, if_ff, Option.bind_none, Option.getD_none, Option.getD_some, Int.sub_zero, Int.zero_add, and_assoc, true_and, exists_const, Nat.reduceAdd, Nat.reduceLT, Nat.reduceSub, Nat.zero_add]
    refine ⟨by decide, by decide, by omega, by omega, fun j acc ρ => acc = (movRow sz k j).map .d ∧ ρ = [some (.d (.int sz)), some (.d (.int mn)), some (.own ((movL sz k).map .d)), some (.d (.int k)), none], ⟨rfl, rfl⟩, ?_, ?_⟩
    · rintro j y acc ρ2 hy ⟨rfl, rfl⟩
      have hj := (List.getElem?_eq_some_iff.mp hy).1
      simp only [List.length_map, List.length_range] at hj
      simp only [List.getElem?_map, List.getElem?_range hj, Option.map_some, Option.some.injEq] at hy
      subst hy
      simp only [b_int, fz1, fz4, r_nil, r_cons, r_set, r_unp, r_par, r_ix1, r_ix2, r_ixp, r_ixe, r_app, r_ext, r_expr, r_ret, r_retv, r_retN, r_if, r_for, r_while, r_pass, r_brk, r_cont, q_sim, q_bin, q_neg, q_cmp, q_isN, q_notN, q_chain, q_and, q_or, q_and1, q_and2, q_or1, q_or2, q_not, q_ite, q_tup, q_lst, q_idx, q_slice, q_rev, q_blt1, q_bltv, q_blt2, q_sortset, q_lrng, q_lc, q_pop, q_index, q_es0, q_es1, q_o0, q_o1, q_c0, q_c1, q_seq, q_rng, q_enum, q_zip, g_name, g_tup, g_t0, g_t1, o_add, o_sub, o_mul, o_fdiv, o_mod, o_pow, f_d, f_nil, c_lt, c_le, c_gt, c_ge, c_eq, c_ne, at0, at1, at2, ix0, ix1, ix2, v_var, v_int, v_str, v_bl, v_non, v_glob, v_add, v_sub, v_neg, v_idx, v_len, onV_d, onV_scr, onW_d, onW_scr, onW_own, simR, sv, frzT, E.sim?, E.var?, SE.var?, Tv.item, Tv.len, PyData.itemsOf, List.map_cons, List.map_nil, List.replicate, List.cons_append, List.nil_append, List.length_cons, List.length_nil, List.set_cons_zero, List.set_cons_succ, List.getElem?_cons_zero, List.getElem?_cons_succ, Option.join_some, Option.some.injEq, Option.map_some, exists_eq', exists_eq, exists_eq_left', exists_eq_left, exists_and_left, Option.bind_some, Option.bind_eq_bind, Option.pure_def, wipeR, restR, keepD, Tv.d.injEq, Tv.own.injEq, PyData.int.injEq, PyData.bool.injEq, PyData.tuple.injEq, PyData.list.injEq, PyData.str.injEq, List.cons.injEq, and_true, if_tt, if_ff, Option.bind_none, Option.getD_none, Option.getD_some, Int.sub_zero, Int.zero_add, and_assoc, true_and, exists_const, Nat.reduceAdd, Nat.reduceLT, Nat.reduceSub, Nat.zero_add]
      refine ⟨fun _ => ⟨by omega, ?_, ?_⟩, fun z => (nomatch z)⟩
      · unfold movRow
        rw [List.length_map, List.length_map, List.length_range]
        exact small64 (by omega)
      · unfold movRow
        rw [List.range_succ, List.map_append, List.map_append]
        rfl
    · rintro acc ρ2 ⟨rfl, rfl⟩
      simp only [List.length_map, List.length_range, f_own, r_nil, r_cons, r_set, r_unp, r_par, r_ix1, r_ix2, r_ixp, r_ixe, r_app, r_ext, r_expr, r_ret, r_retv, r_retN, r_if, r_for, r_while, r_pass, r_brk, r_cont, q_sim, q_bin, q_neg, q_cmp, q_isN, q_notN, q_chain, q_and, q_or, q_and1, q_and2, q_or1, q_or2, q_not, q_ite, q_tup, q_lst, q_idx, q_slice, q_rev, q_blt1, q_bltv, q_blt2, q_sortset, q_lrng, q_lc, q_pop, q_index, q_es0, q_es1, q_o0, q_o1, q_c0, q_c1, q_seq, q_rng, q_enum, q_zip, g_name, g_tup, g_t0, g_t1, o_add, o_sub, o_mul, o_fdiv, o_mod, o_pow, f_d, f_nil, c_lt, c_le, c_gt, c_ge, c_eq, c_ne, at0, at1, at2, ix0, ix1, ix2, v_var, v_int, v_str, v_bl, v_non, v_glob, v_add, v_sub, v_neg, v_idx, v_len, onV_d, onV_scr, onW_d, onW_scr, onW_own, simR, sv, frzT, E.sim?, E.var?, SE.var?, Tv.item, Tv.len, PyData.itemsOf, List.map_cons, List.map_nil, List.replicate, List.cons_append, List.nil_append, List.length_cons, List.length_nil, List.set_cons_zero, List.set_cons_succ, List.getElem?_cons_zero, List.getElem?_cons_succ, Option.join_some, Option.some.injEq, Option.map_some, exists_eq', exists_eq, exists_eq_left', exists_eq_left, exists_and_left, Option.bind_some, Option.bind_eq_bind, Option.pure_def, wipeR, restR, keepD, Tv.d.injEq, Tv.own.injEq, PyData.int.injEq, PyData.bool.injEq, PyData.tuple.injEq, PyData.list.injEq, PyData.str.injEq, List.cons.injEq, and_true, if_tt, if_ff, Option.bind_none, Option.getD_none, Option.getD_some, Int.sub_zero, Int.zero_add, and_assoc, true_and, exists_const, Nat.reduceAdd, Nat.reduceLT, Nat.reduceSub, Nat.zero_add]
      have e1 : (movRow sz k (sz - 0).toNat).length ≤ 5 := by
        unfold movRow
        rw [List.length_map, List.length_range]
        omega
      refine ⟨?_, ?_⟩
      · rw [sizeLine_eq]
        simp only [Int.sub_zero] at e1
        omega
      · unfold movL
        rw [List.range_succ, List.flatMap_append, List.flatMap_cons, List.flatMap_nil, List.append_nil, List.map_append]
  · rintro ρ2 rfl
    simp only [List.length_map, List.length_range]
    have hm : (mn - 0).toNat = mn.toNat := by rw [Int.sub_zero]
    have hML := hML mn.toNat (by omega)
    have hfit := fit_of hML.2 (mov_fit h1 h2 h3 h4)
    simp only [hm, f_own, r_nil, r_cons, r_set, r_unp, r_par, r_ix1, r_ix2, r_ixp, r_ixe, r_app, r_ext, r_expr, r_ret, r_retv, r_retN, r_if, r_for, r_while, r_pass, r_brk, r_cont, q_sim, q_bin, q_neg, q_cmp, q_isN, q_notN, q_chain, q_and, q_or, q_and1, q_and2, q_or1, q_or2, q_not, q_ite, q_tup, q_lst, q_idx, q_slice, q_rev, q_blt1, q_bltv, q_blt2, q_sortset, q_lrng, q_lc, q_pop, q_index, q_es0, q_es1, q_o0, q_o1, q_c0, q_c1, q_seq, q_rng, q_enum, q_zip, g_name, g_tup, g_t0, g_t1, o_add, o_sub, o_mul, o_fdiv, o_mod, o_pow, f_d, f_nil, c_lt, c_le, c_gt, c_ge, c_eq, c_ne, at0, at1, at2, ix0, ix1, ix2, v_var, v_int, v_str, v_bl, v_non, v_glob, v_add, v_sub, v_neg, v_idx, v_len, onV_d, onV_scr, onW_d, onW_scr, onW_own, simR, sv, frzT, E.sim?, E.var?, SE.var?, Tv.item, Tv.len, PyData.itemsOf, List.map_cons, List.map_nil, List.replicate, List.cons_append, List.nil_append, List.length_cons, List.length_nil, List.set_cons_zero, List.set_cons_succ, List.getElem?_cons_zero, List.getElem?_cons_succ, Option.join_some, Option.some.injEq, Option.map_some, exists_eq', exists_eq, exists_eq_left', exists_eq_left, exists_and_left, Option.bind_some, Option.bind_eq_bind, Option.pure_def, wipeR, restR, keepD, Tv.d.injEq, Tv.own.injEq, PyData.int.injEq, PyData.bool.injEq, PyData.tuple.injEq, PyData.list.injEq, PyData.str.injEq, List.cons.injEq, and_true, if_tt, if_ff, Option.bind_none, Option.getD_none, Option.getD_some, Int.sub_zero, Int.zero_add, and_assoc, true_and, exists_const, Nat.reduceAdd, Nat.reduceLT, Nat.reduceSub, Nat.zero_add]
    refine ⟨m_small' (by decide) (by decide), b_sortedD (sits_ok hML.2) ?_⟩
    simp only [b_tuple, fz3, r_nil, r_cons, r_set, r_unp, r_par, r_ix1, r_ix2, r_ixp, r_ixe, r_app, r_ext, r_expr, r_ret, r_retv, r_retN, r_if, r_for, r_while, r_pass, r_brk, r_cont, q_sim, q_bin, q_neg, q_cmp, q_isN, q_notN, q_chain, q_and, q_or, q_and1, q_and2, q_or1, q_or2, q_not, q_ite, q_tup, q_lst, q_idx, q_slice, q_rev, q_blt1, q_bltv, q_blt2, q_sortset, q_lrng, q_lc, q_pop, q_index, q_es0, q_es1, q_o0, q_o1, q_c0, q_c1, q_seq, q_rng, q_enum, q_zip, g_name, g_tup, g_t0, g_t1, o_add, o_sub, o_mul, o_fdiv, o_mod, o_pow, f_d, f_nil, c_lt, c_le, c_gt, c_ge, c_eq, c_ne, at0, at1, at2, ix0, ix1, ix2, v_var, v_int, v_str, v_bl, v_non, v_glob, v_add, v_sub, v_neg, v_idx, v_len, onV_d, onV_scr, onW_d, onW_scr, onW_own, simR, sv, frzT, E.sim?, E.var?, SE.var?, Tv.item, Tv.len, PyData.itemsOf, List.map_cons, List.map_nil, List.replicate, List.cons_append, List.nil_append, List.length_cons, List.length_nil, List.set_cons_zero, List.set_cons_succ, List.getElem?_cons_zero, List.getElem?_cons_succ, Option.join_some, Option.some.injEq, Option.map_some, exists_eq', exists_eq, exists_eq_left', exists_eq_left, exists_and_left, Option.bind_some, Option.bind_eq_bind, Option.pure_def, wipeR, restR, keepD, Tv.d.injEq, Tv.own.injEq, PyData.int.injEq, PyData.bool.injEq, PyData.tuple.injEq, PyData.list.injEq, PyData.str.injEq, List.cons.injEq, and_true, if_tt, if_ff, Option.bind_none, Option.getD_none, Option.getD_some, Int.sub_zero, Int.zero_add, and_assoc, true_and, exists_const, Nat.reduceAdd, Nat.reduceLT, Nat.reduceSub, Nat.zero_add]
    exact hq _ _ (plan_sorted (by omega) (by omega) h3 (by omega) (by omega) hML.2 hfit)
end Tr
set_option Elab.async false
set_option linter.all false
set_option maxRecDepth 100000
set_option maxHeartbeats 4000000
set_option exponentiation.threshold 3000
namespace Tr
open PySem PySem.Spec PyProof.Rows L2
def bRing3 : SL := (.cons (.par [3, 4] (.cons (.bin .sub (.bin .mul (.sim (.int 2)) (.sim (.var 0))) (.sim (.int 1))) (.cons (.lst .nil) .nil)))
  (.cons (.for_ (.name 2) (.rng .non (.sim (.var 3)))
  (.cons (.app 4 (.tup (.cons (.sim (.var 2)) (.cons (.sim (.var 3)) (.cons (.sim (.var 2)) (.cons (.tup (.cons (.sim (.var 2)) .nil)) .nil))))))
  (.cons (.for_ (.name 5) (.rng (.som (.sim (.int 1))) (.sim (.var 0)))
  (.cons (.set 6 (.lst (.cons (.bin .mod (.bltv .int (.bin .add (.sim (.var 2)) (.sim (.var 5)))) (.sim (.var 3))) (.cons (.bin .mod (.bltv .int (.bin .sub (.sim (.var 2)) (.sim (.var 5)))) (.sim (.var 3))) .nil))))
  (.cons (.set 6 (.ite (.cmp .eq (.bin .mod (.bltv .int (.bin .fdiv (.sim (.var 1)) (.idx (.lst (.cons (.sim (.int 1)) (.cons (.sim (.int 2)) (.cons (.sim (.int 4)) (.cons (.sim (.int 8)) (.cons (.sim (.int 16)) .nil)))))) (.sim (.var 5))))) (.sim (.int 2))) (.sim (.int 0))) (.sim (.var 6)) (.rev (.sim (.var 6)))))
  (.cons (.app 4 (.tup (.cons (.sim (.var 2)) (.cons (.sim (.idx (.var 6) (.int 0))) (.cons (.sim (.idx (.var 6) (.int 1))) (.cons (.tup (.cons (.sim (.var 2)) .nil)) .nil))))))
  .nil)))
  [5, 6])
  .nil))
  [2, 5, 6])
  (.cons (.ret (.tup (.cons (.bin .add (.sim (.var 3)) (.sim (.int 1))) (.cons (.sim (.var 3)) (.cons (.blt1 .tuple (.blt1 .sorted (.sim (.var 4)))) .nil)))))
  .nil)))
theorem fo2 {a b : PyData} : (Tv.own [.d a, .d b]).frz = some (.list [a, b]) := rfl
theorem rev_d {xs : List PyData} {R : Tv → Prop} : revO (.d (.list xs)) R = R (.own (xs.reverse.map .d)) := by
  refine propext ⟨fun ⟨ys, h1, h⟩ => ?_, fun h => ⟨_, rfl, h⟩⟩
  cases h1
  exact h
theorem sides {j : Nat} (h : j < 4) : ∃ q : Int, atI [Tv.d (.int 1), Tv.d (.int 2), Tv.d (.int 4), Tv.d (.int 8), Tv.d (.int 16)] (1 + (j : Int)) = some (.d (.int q)) ∧ 1 ≤ q ∧ q ≤ 16 := by
  have e : ((1 + j : Nat) : Int) = 1 + (j : Int) := by omega
  rw [← e]
  match j, h with
  | 0, _ => exact ⟨2, atI_nat rfl, by decide, by decide⟩
  | 1, _ => exact ⟨4, atI_nat rfl, by decide, by decide⟩
  | 2, _ => exact ⟨8, atI_nat rfl, by decide, by decide⟩
  | 3, _ => exact ⟨16, atI_nat rfl, by decide, by decide⟩
def spRing3 : FS := fun xs Q => ∃ sz sh : Int, xs = [.d (.int sz), .d (.int sh)] ∧ 2 ≤ sz ∧ sz ≤ 5 ∧ ∀ ss rest, PlanOk (2 * sz) (2 * sz - 1) ss → Q (.d (planD (2 * sz) (2 * sz - 1) ss)) rest
theorem ok_ring3 {Γ : Gam} {Φ : Phi} : ∀ xs Q, spRing3 xs Q → fsOf Γ Φ 2 7 bRing3 xs Q := by
  rintro xs Q ⟨sz, sh, rfl, h1, h2, hq⟩
  refine ⟨rfl, ?_⟩
  rw [bRing3, r_cons]
  simp only [List.zip_cons_cons, List.zip_nil_right, List.foldl_cons, List.foldl_nil, r_nil, r_set, r_unp, r_par, r_ix1, r_ix2, r_ixp, r_ixe, r_app, r_ext, r_expr, r_ret, r_retv, r_retN, r_if, r_for, r_while, r_pass, r_brk, r_cont, q_sim, q_bin, q_neg, q_cmp, q_isN, q_notN, q_chain, q_and, q_or, q_and1, q_and2, q_or1, q_or2, q_not, q_ite, q_tup, q_lst, q_idx, q_slice, q_rev, q_blt1, q_bltv, q_blt2, q_sortset, q_lrng, q_lc, q_pop, q_index, q_es0, q_es1, q_o0, q_o1, q_c0, q_c1, q_seq, q_rng, q_enum, q_zip, g_name, g_tup, g_t0, g_t1, o_add, o_sub, o_mul, o_fdiv, o_mod, o_pow, f_d, f_nil, c_lt, c_le, c_gt, c_ge, c_eq, c_ne, at0, at1, at2, ix0, ix1, ix2, v_var, v_int, v_str, v_bl, v_non, v_glob, v_add, v_sub, v_neg, v_idx, v_len, onV_d, onV_scr, onW_d, onW_scr, onW_own, simR, sv, frzT, E.sim?, E.var?, SE.var?, Tv.item, Tv.len, PyData.itemsOf, List.map_cons, List.map_nil, List.replicate, List.cons_append, List.nil_append, List.length_cons, List.length_nil, List.set_cons_zero, List.set_cons_succ, List.getElem?_cons_zero, List.getElem?_cons_succ, Option.join_some, Option.some.injEq, Option.map_some, exists_eq', exists_eq, exists_eq_left', exists_eq_left, exists_and_left, Option.bind_some, Option.bind_eq_bind, Option.pure_def, wipeR, restR, keepD, Tv.d.injEq, Tv.own.injEq, PyData.int.injEq, PyData.bool.injEq, PyData.tuple.injEq, PyData.list.injEq, PyData.str.injEq, List.cons.injEq, and_true, if_tt, if_ff, Option.bind_none, Option.getD_none, Option.getD_some, Int.sub_zero, Int.zero_add, and_assoc, true_and, exists_const, Nat.reduceAdd, Nat.reduceLT, Nat.reduceSub, Nat.zero_add]
  refine ⟨m_small' (by decide) (by decide), by decide, by decide, ?_⟩
  rw [r_cons]
  simp only [r_nil, r_set, r_unp, r_par, r_ix1, r_ix2, r_ixp, r_ixe, r_app, r_ext, r_expr, r_ret, r_retv, r_retN, r_if, r_for, r_while, r_pass, r_brk, r_cont, q_sim, q_bin, q_neg, q_cmp, q_isN, q_notN, q_chain, q_and, q_or, q_and1, q_and2, q_or1, q_or2, q_not, q_ite, q_tup, q_lst, q_idx, q_slice, q_rev, q_blt1, q_bltv, q_blt2, q_sortset, q_lrng, q_lc, q_pop, q_index, q_es0, q_es1, q_o0, q_o1, q_c0, q_c1, q_seq, q_rng, q_enum, q_zip, g_name, g_tup, g_t0, g_t1, o_add, o_sub, o_mul, o_fdiv, o_mod, o_pow, f_d, f_nil, c_lt, c_le, c_gt, c_ge, c_eq, c_ne, at0, at1, at2, ix0, ix1, ix2, v_var, v_int, v_str, v_bl, v_non, v_glob, v_add, v_sub, v_neg, v_idx, v_len, onV_d, onV_scr, onW_d, onW_scr, onW_own, simR, sv, frzT, E.sim?, E.var?, SE.var?, Tv.item, Tv.len, PyData.itemsOf, List.map_cons, List.map_nil, List.replicate, List.cons_append, List.nil_append, List.length_cons, List.length_nil, List.set_cons_zero, List.set_cons_succ, List.getElem?_cons_zero, List.getElem?_cons_succ, Option.join_some, Option.some.injEq, Option.map_some, exists_eq', exists_eq, exists_eq_left', exists_eq_left, exists_and_left, Option.bind_some, Option.bind_eq_bind, Option.pure_def, wipeR, restR, keepD, Tv.d.injEq, Tv.own.injEq, PyData.int.injEq, PyData.bool.injEq, PyData.tuple.injEq, PyData.list.injEq, PyData.str.injEq, List.cons.injEq, and_true, if_tt, if_ff, Option.bind_none, Option.getD_none, Option.getD_some, Int.sub_zero, Int.zero_add, and_assoc, true_and, exists_const, Nat.reduceAdd, Nat.reduceLT, Nat.reduceSub, Nat.zero_add]
  have hrow : ∀ t m : Nat, (t : Int) < 2 * sz - 1 → (m : Int) ≤ sz - 1 → (ringRow sz t m).length ≤ 5 ∧ ∀ f ∈ ringRow sz t m, Sit (2 * sz) (2 * sz - 1) f := fun t m ht hm => by
    unfold ringRow
    refine ⟨by rw [List.length_cons, List.length_map, List.length_range]; omega, fun f hf => ?_⟩
    rcases List.mem_cons.mp hf with rfl | hf
    · exact ⟨_, _, _, _, rfl, by omega, by omega, by omega, by omega, by omega, by omega, fun p hp => by
        have e := List.mem_singleton.mp hp
        omega, by simp⟩
    · obtain ⟨j, hj, rfl⟩ := List.mem_map.mp hf
      have m1 := Int.emod_nonneg ((t : Int) + (1 + j)) (show 2 * sz - 1 ≠ 0 by omega)
      have m2 := Int.emod_lt_of_pos ((t : Int) + (1 + j)) (show 0 < 2 * sz - 1 by omega)
      have m3 := Int.emod_nonneg ((t : Int) - (1 + j)) (show 2 * sz - 1 ≠ 0 by omega)
      have m4 := Int.emod_lt_of_pos ((t : Int) - (1 + j)) (show 0 < 2 * sz - 1 by omega)
      exact ⟨_, _, _, _, rfl, by omega, by omega, by omega, by omega, by omega, by omega, fun p hp => by
        have e := List.mem_singleton.mp hp
        omega, by simp⟩
  have hRL : ∀ k : Nat, (k : Int) ≤ 2 * sz - 1 → (ringL sz k).length ≤ 5 * k ∧ ∀ f ∈ ringL sz k, Sit (2 * sz) (2 * sz - 1) f := fun k hk => by
    induction k with
    | zero => exact ⟨Nat.zero_le _, fun _ z => (nomatch z)⟩
    | succ k ih =>
      have ih := ih (by omega)
      have hr := hrow k (sz - 1).toNat (by omega) (by omega)
      have e : ringL sz (k + 1) = ringL sz k ++ ringRow sz k (sz - 1).toNat := by
        unfold ringL
        rw [List.range_succ, List.flatMap_append, List.flatMap_cons, List.flatMap_nil, List.append_nil]
      rw [e]
      refine ⟨by rw [List.length_append]; omega, fun f hf => (List.mem_append.mp hf).elim (ih.2 f) (hr.2 f)⟩
  have nlen : ∀ fs gs : List PyData, fs.map norm = gs.map norm → fs.length = gs.length := fun fs gs e => by
    have := congrArg List.length e
    simpa using this
  refine ⟨by decide, by decide, by omega, by omega, fun k ρ => ∃ fs : List PyData, fs.map norm = (ringL sz k).map norm ∧ (∀ f ∈ fs, Sit (2 * sz) (2 * sz - 1) f) ∧ ρ = [some (.d (.int sz)), some (.d (.int sh)), none, some (.d (.int (2 * sz - 1))), some (.own (fs.map .d)), none, none], ⟨[], rfl, fun _ z => (nomatch z), rfl⟩, ?_, ?_⟩
  · rintro k x ρ2 hx ⟨fs, hfn, hfs, rfl⟩
    have hk := (List.getElem?_eq_some_iff.mp hx).1
    simp only [List.length_map, List.length_range] at hk
    simp only [List.getElem?_map, List.getElem?_range hk, Option.map_some, Option.some.injEq] at hx
    subst hx
    have hfl := nlen _ _ hfn
    have hrl := (hRL k (by omega)).1
    simp only [r_nil, r_set, r_unp, r_par, r_ix1, r_ix2, r_ixp, r_ixe, r_app, r_ext, r_expr, r_ret, r_retv, r_retN, r_if, r_for, r_while, r_pass, r_brk, r_cont, q_sim, q_bin, q_neg, q_cmp, q_isN, q_notN, q_chain, q_and, q_or, q_and1, q_and2, q_or1, q_or2, q_not, q_ite, q_tup, q_lst, q_idx, q_slice, q_rev, q_blt1, q_bltv, q_blt2, q_sortset, q_lrng, q_lc, q_pop, q_index, q_es0, q_es1, q_o0, q_o1, q_c0, q_c1, q_seq, q_rng, q_enum, q_zip, g_name, g_tup, g_t0, g_t1, o_add, o_sub, o_mul, o_fdiv, o_mod, o_pow, f_d, f_nil, c_lt, c_le, c_gt, c_ge, c_eq, c_ne, at0, at1, at2, ix0, ix1, ix2, v_var, v_int, v_str, v_bl, v_non, v_glob, v_add, v_sub, v_neg, v_idx, v_len, onV_d, onV_scr, onW_d, onW_scr, onW_own, simR, sv, frzT, E.sim?, E.var?, SE.var?, Tv.item, Tv.len, PyData.itemsOf, List.map_cons, List.map_nil, List.replicate, List.cons_append, List.nil_append, List.length_cons, List.length_nil, List.set_cons_zero, List.set_cons_succ, List.getElem?_cons_zero, List.getElem?_cons_succ, Option.join_some, Option.some.injEq, Option.map_some, exists_eq', exists_eq, exists_eq_left', exists_eq_left, exists_and_left, Option.bind_some, Option.bind_eq_bind, Option.pure_def, wipeR, restR, keepD, Tv.d.injEq, Tv.own.injEq, PyData.int.injEq, PyData.bool.injEq, PyData.tuple.injEq, PyData.list.injEq, PyData.str.injEq, List.cons.injEq, and_true, if_tt, if_ff, Option.bind_none, Option.getD_none, Option.getD_some, Int.sub_zero, Int.zero_add, and_assoc, true_and, exists_const, Nat.reduceAdd, Nat.reduceLT, Nat.reduceSub, Nat.zero_add]
    rw [r_cons]
    simp only [fz1, fz4, List.length_map, r_nil, r_set, r_unp, r_par, r_ix1, r_ix2, r_ixp, r_ixe, r_app, r_ext, r_expr, r_ret, r_retv, r_retN, r_if, r_for, r_while, r_pass, r_brk, r_cont, q_sim, q_bin, q_neg, q_cmp, q_isN, q_notN, q_chain, q_and, q_or, q_and1, q_and2, q_or1, q_or2, q_not, q_ite, q_tup, q_lst, q_idx, q_slice, q_rev, q_blt1, q_bltv, q_blt2, q_sortset, q_lrng, q_lc, q_pop, q_index, q_es0, q_es1, q_o0, q_o1, q_c0, q_c1, q_seq, q_rng, q_enum, q_zip, g_name, g_tup, g_t0, g_t1, o_add, o_sub, o_mul, o_fdiv, o_mod, o_pow, f_d, f_nil, c_lt, c_le, c_gt, c_ge, c_eq, c_ne, at0, at1, at2, ix0, ix1, ix2, v_var, v_int, v_str, v_bl, v_non, v_glob, v_add, v_sub, v_neg, v_idx, v_len, onV_d, onV_scr, onW_d, onW_scr, onW_own, simR, sv, frzT, E.sim?, E.var?, SE.var?, Tv.item, Tv.len, PyData.itemsOf, List.map_cons, List.map_nil, List.replicate, List.cons_append, List.nil_append, List.length_cons, List.length_nil, List.set_cons_zero, List.set_cons_succ, List.getElem?_cons_zero, List.getElem?_cons_succ, Option.join_some, Option.some.injEq, Option.map_some, exists_eq', exists_eq, exists_eq_left', exists_eq_left, exists_and_left, Option.bind_some, Option.bind_eq_bind, Option.pure_def, wipeR, restR, keepD, Tv.d.injEq, Tv.own.injEq, PyData.int.injEq, PyData.bool.injEq, PyData.tuple.injEq, PyData.list.injEq, PyData.str.injEq, List.cons.injEq, and_true, if_tt, if_ff, Option.bind_none, Option.getD_none, Option.getD_some, Int.sub_zero, Int.zero_add, and_assoc, true_and, exists_const, Nat.reduceAdd, Nat.reduceLT, Nat.reduceSub, Nat.zero_add]
    refine ⟨small64 (by omega), ?_⟩
    rw [r_cons]
    simp only [r_nil, r_set, r_unp, r_par, r_ix1, r_ix2, r_ixp, r_ixe, r_app, r_ext, r_expr, r_ret, r_retv, r_retN, r_if, r_for, r_while, r_pass, r_brk, r_cont, q_sim, q_bin, q_neg, q_cmp, q_isN, q_notN, q_chain, q_and, q_or, q_and1, q_and2, q_or1, q_or2, q_not, q_ite, q_tup, q_lst, q_idx, q_slice, q_rev, q_blt1, q_bltv, q_blt2, q_sortset, q_lrng, q_lc, q_pop, q_index, q_es0, q_es1, q_o0, q_o1, q_c0, q_c1, q_seq, q_rng, q_enum, q_zip, g_name, g_tup, g_t0, g_t1, o_add, o_sub, o_mul, o_fdiv, o_mod, o_pow, f_d, f_nil, c_lt, c_le, c_gt, c_ge, c_eq, c_ne, at0, at1, at2, ix0, ix1, ix2, v_var, v_int, v_str, v_bl, v_non, v_glob, v_add, v_sub, v_neg, v_idx, v_len, onV_d, onV_scr, onW_d, onW_scr, onW_own, simR, sv, frzT, E.sim?, E.var?, SE.var?, Tv.item, Tv.len, PyData.itemsOf, List.map_cons, List.map_nil, List.replicate, List.cons_append, List.nil_append, List.length_cons, List.length_nil, List.set_cons_zero, List.set_cons_succ, List.getElem?_cons_zero, List.getElem?_cons_succ, Option.join_some, Option.some.injEq, Option.map_some, exists_eq', exists_eq, exists_eq_left', exists_eq_left, exists_and_left, Option.bind_some, Option.bind_eq_bind, Option.pure_def, wipeR, restR, keepD, Tv.d.injEq, Tv.own.injEq, PyData.int.injEq, PyData.bool.injEq, PyData.tuple.injEq, PyData.list.injEq, PyData.str.injEq, List.cons.injEq, and_true, if_tt, if_ff, Option.bind_none, Option.getD_none, Option.getD_some, Int.sub_zero, Int.zero_add, and_assoc, true_and, exists_const, Nat.reduceAdd, Nat.reduceLT, Nat.reduceSub, Nat.zero_add]
    refine ⟨by decide, by decide, by omega, by omega, fun j ρ => ∃ fs : List PyData, fs.map norm = (ringL sz k ++ ringRow sz k j).map norm ∧ (∀ f ∈ fs, Sit (2 * sz) (2 * sz - 1) f) ∧ ρ = [some (.d (.int sz)), some (.d (.int sh)), some (.d (.int k)), some (.d (.int (2 * sz - 1))), some (.own (fs.map .d)), none, none],
      ⟨fs ++ [sitD k (2 * sz - 1) k [(k : Int)]], by rw [List.map_append, hfn, List.map_append]; rfl, fun f hf => ?_, by simp [sitD]⟩, ?_, ?_⟩
    · rcases List.mem_append.mp hf with h | h
      · exact hfs f h
      · exact ⟨_, _, _, _, List.mem_singleton.mp h, by omega, by omega, by omega, by omega, by omega, by omega, fun p hp => by
          have e := List.mem_singleton.mp hp
          omega, by simp⟩
    · rintro j y ρ2 hy ⟨fs, hfn, hfs, rfl⟩
      have hj := (List.getElem?_eq_some_iff.mp hy).1
      simp only [List.length_map, List.length_range] at hj
      simp only [List.getElem?_map, List.getElem?_range hj, Option.map_some, Option.some.injEq] at hy
      subst hy
      have hfl := nlen _ _ hfn
      rw [List.length_append] at hfl
      have hrr := (hrow k j (by omega) (by omega)).1
      have m1 := Int.emod_nonneg ((k : Int) + (1 + j)) (show 2 * sz - 1 ≠ 0 by omega)
      have m2 := Int.emod_lt_of_pos ((k : Int) + (1 + j)) (show 0 < 2 * sz - 1 by omega)
      have m3 := Int.emod_nonneg ((k : Int) - (1 + j)) (show 2 * sz - 1 ≠ 0 by omega)
      have m4 := Int.emod_lt_of_pos ((k : Int) - (1 + j)) (show 0 < 2 * sz - 1 by omega)
      have hnext : ringRow sz k (j + 1) = ringRow sz k j ++ [sitD k (((k : Int) + (1 + j)) % (2 * sz - 1)) (((k : Int) - (1 + j)) % (2 * sz - 1)) [(k : Int)]] := by
        unfold ringRow
        rw [List.range_succ, List.map_append]
        rfl
      simp only [r_nil, r_set, r_unp, r_par, r_ix1, r_ix2, r_ixp, r_ixe, r_app, r_ext, r_expr, r_ret, r_retv, r_retN, r_if, r_for, r_while, r_pass, r_brk, r_cont, q_sim, q_bin, q_neg, q_cmp, q_isN, q_notN, q_chain, q_and, q_or, q_and1, q_and2, q_or1, q_or2, q_not, q_ite, q_tup, q_lst, q_idx, q_slice, q_rev, q_blt1, q_bltv, q_blt2, q_sortset, q_lrng, q_lc, q_pop, q_index, q_es0, q_es1, q_o0, q_o1, q_c0, q_c1, q_seq, q_rng, q_enum, q_zip, g_name, g_tup, g_t0, g_t1, o_add, o_sub, o_mul, o_fdiv, o_mod, o_pow, f_d, f_nil, c_lt, c_le, c_gt, c_ge, c_eq, c_ne, at0, at1, at2, ix0, ix1, ix2, v_var, v_int, v_str, v_bl, v_non, v_glob, v_add, v_sub, v_neg, v_idx, v_len, onV_d, onV_scr, onW_d, onW_scr, onW_own, simR, sv, frzT, E.sim?, E.var?, SE.var?, Tv.item, Tv.len, PyData.itemsOf, List.map_cons, List.map_nil, List.replicate, List.cons_append, List.nil_append, List.length_cons, List.length_nil, List.set_cons_zero, List.set_cons_succ, List.getElem?_cons_zero, List.getElem?_cons_succ, Option.join_some, Option.some.injEq, Option.map_some, exists_eq', exists_eq, exists_eq_left', exists_eq_left, exists_and_left, Option.bind_some, Option.bind_eq_bind, Option.pure_def, wipeR, restR, keepD, Tv.d.injEq, Tv.own.injEq, PyData.int.injEq, PyData.bool.injEq, PyData.tuple.injEq, PyData.list.injEq, PyData.str.injEq, List.cons.injEq, and_true, if_tt, if_ff, Option.bind_none, Option.getD_none, Option.getD_some, Int.sub_zero, Int.zero_add, and_assoc, true_and, exists_const, Nat.reduceAdd, Nat.reduceLT, Nat.reduceSub, Nat.zero_add]
      rw [r_cons]
      simp only [b_int, r_nil, r_set, r_unp, r_par, r_ix1, r_ix2, r_ixp, r_ixe, r_app, r_ext, r_expr, r_ret, r_retv, r_retN, r_if, r_for, r_while, r_pass, r_brk, r_cont, q_sim, q_bin, q_neg, q_cmp, q_isN, q_notN, q_chain, q_and, q_or, q_and1, q_and2, q_or1, q_or2, q_not, q_ite, q_tup, q_lst, q_idx, q_slice, q_rev, q_blt1, q_bltv, q_blt2, q_sortset, q_lrng, q_lc, q_pop, q_index, q_es0, q_es1, q_o0, q_o1, q_c0, q_c1, q_seq, q_rng, q_enum, q_zip, g_name, g_tup, g_t0, g_t1, o_add, o_sub, o_mul, o_fdiv, o_mod, o_pow, f_d, f_nil, c_lt, c_le, c_gt, c_ge, c_eq, c_ne, at0, at1, at2, ix0, ix1, ix2, v_var, v_int, v_str, v_bl, v_non, v_glob, v_add, v_sub, v_neg, v_idx, v_len, onV_d, onV_scr, onW_d, onW_scr, onW_own, simR, sv, frzT, E.sim?, E.var?, SE.var?, Tv.item, Tv.len, PyData.itemsOf, List.map_cons, List.map_nil, List.replicate, List.cons_append, List.nil_append, List.length_cons, List.length_nil, List.set_cons_zero, List.set_cons_succ, List.getElem?_cons_zero, List.getElem?_cons_succ, Option.join_some, Option.some.injEq, Option.map_some, exists_eq', exists_eq, exists_eq_left', exists_eq_left, exists_and_left, Option.bind_some, Option.bind_eq_bind, Option.pure_def, wipeR, restR, keepD, Tv.d.injEq, Tv.own.injEq, PyData.int.injEq, PyData.bool.injEq, PyData.tuple.injEq, PyData.list.injEq, PyData.str.injEq, List.cons.injEq, and_true, if_tt, if_ff, Option.bind_none, Option.getD_none, Option.getD_some, Int.sub_zero, Int.zero_add, and_assoc, true_and, exists_const, Nat.reduceAdd, Nat.reduceLT, Nat.reduceSub, Nat.zero_add]
      refine ⟨by omega, by omega, ?_⟩
      generalize ((k : Int) + (1 + j)) % (2 * sz - 1) = A at m1 m2 hnext ⊢
      generalize ((k : Int) - (1 + j)) % (2 * sz - 1) = B at m3 m4 hnext ⊢
      obtain ⟨q, eq, q1, q2⟩ := sides (show j < 4 by omega)
      rw [r_cons]
      simp only [b_int, fo2, rev_d, List.reverse_cons, List.reverse_nil, eq, r_nil, r_set, r_unp, r_par, r_ix1, r_ix2, r_ixp, r_ixe, r_app, r_ext, r_expr, r_ret, r_retv, r_retN, r_if, r_for, r_while, r_pass, r_brk, r_cont, q_sim, q_bin, q_neg, q_cmp, q_isN, q_notN, q_chain, q_and, q_or, q_and1, q_and2, q_or1, q_or2, q_not, q_ite, q_tup, q_lst, q_idx, q_slice, q_rev, q_blt1, q_bltv, q_blt2, q_sortset, q_lrng, q_lc, q_pop, q_index, q_es0, q_es1, q_o0, q_o1, q_c0, q_c1, q_seq, q_rng, q_enum, q_zip, g_name, g_tup, g_t0, g_t1, o_add, o_sub, o_mul, o_fdiv, o_mod, o_pow, f_d, f_nil, c_lt, c_le, c_gt, c_ge, c_eq, c_ne, at0, at1, at2, ix0, ix1, ix2, v_var, v_int, v_str, v_bl, v_non, v_glob, v_add, v_sub, v_neg, v_idx, v_len, onV_d, onV_scr, onW_d, onW_scr, onW_own, simR, sv, frzT, E.sim?, E.var?, SE.var?, Tv.item, Tv.len, PyData.itemsOf, List.map_cons, List.map_nil, List.replicate, List.cons_append, List.nil_append, List.length_cons, List.length_nil, List.set_cons_zero, List.set_cons_succ, List.getElem?_cons_zero, List.getElem?_cons_succ, Option.join_some, Option.some.injEq, Option.map_some, exists_eq', exists_eq, exists_eq_left', exists_eq_left, exists_and_left, Option.bind_some, Option.bind_eq_bind, Option.pure_def, wipeR, restR, keepD, Tv.d.injEq, Tv.own.injEq, PyData.int.injEq, PyData.bool.injEq, PyData.tuple.injEq, PyData.list.injEq, PyData.str.injEq, List.cons.injEq, and_true, if_tt, if_ff, Option.bind_none, Option.getD_none, Option.getD_some, Int.sub_zero, Int.zero_add, and_assoc, true_and, exists_const, Nat.reduceAdd, Nat.reduceLT, Nat.reduceSub, Nat.zero_add]
      refine ⟨div_ok (by omega) (Int.lt_trans (show q < 17 by omega) (by decide)), by decide, if_l (fun _ => ?_) fun _ => ?_⟩
      · simp only [fz1, fz4, List.length_map, r_nil, r_cons, r_set, r_unp, r_par, r_ix1, r_ix2, r_ixp, r_ixe, r_app, r_ext, r_expr, r_ret, r_retv, r_retN, r_if, r_for, r_while, r_pass, r_brk, r_cont, q_sim, q_bin, q_neg, q_cmp, q_isN, q_notN, q_chain, q_and, q_or, q_and1, q_and2, q_or1, q_or2, q_not, q_ite, q_tup, q_lst, q_idx, q_slice, q_rev, q_blt1, q_bltv, q_blt2, q_sortset, q_lrng, q_lc, q_pop, q_index, q_es0, q_es1, q_o0, q_o1, q_c0, q_c1, q_seq, q_rng, q_enum, q_zip, g_name, g_tup, g_t0, g_t1, o_add, o_sub, o_mul, o_fdiv, o_mod, o_pow, f_d, f_nil, c_lt, c_le, c_gt, c_ge, c_eq, c_ne, at0, at1, at2, ix0, ix1, ix2, v_var, v_int, v_str, v_bl, v_non, v_glob, v_add, v_sub, v_neg, v_idx, v_len, onV_d, onV_scr, onW_d, onW_scr, onW_own, simR, sv, frzT, E.sim?, E.var?, SE.var?, Tv.item, Tv.len, PyData.itemsOf, List.map_cons, List.map_nil, List.replicate, List.cons_append, List.nil_append, List.length_cons, List.length_nil, List.set_cons_zero, List.set_cons_succ, List.getElem?_cons_zero, List.getElem?_cons_succ, Option.join_some, Option.some.injEq, Option.map_some, exists_eq', exists_eq, exists_eq_left', exists_eq_left, exists_and_left, Option.bind_some, Option.bind_eq_bind, Option.pure_def, wipeR, restR, keepD, Tv.d.injEq, Tv.own.injEq, PyData.int.injEq, PyData.bool.injEq, PyData.tuple.injEq, PyData.list.injEq, PyData.str.injEq, List.cons.injEq, and_true, if_tt, if_ff, Option.bind_none, Option.getD_none, Option.getD_some, Int.sub_zero, Int.zero_add, and_assoc, true_and, exists_const, Nat.reduceAdd, Nat.reduceLT, Nat.reduceSub, Nat.zero_add]
        refine ⟨small64 (by omega), fs ++ [sitD k A B [(k : Int)]], by rw [hnext, List.map_append, hfn, ← List.append_assoc, List.map_append (l₂ := [_])], fun f hf => ?_, by simp [sitD]⟩
        rcases List.mem_append.mp hf with h | h
        · exact hfs f h
        · exact ⟨_, _, _, _, List.mem_singleton.mp h, by omega, by omega, by omega, by omega, by omega, by omega, fun p hp => by
            have e := List.mem_singleton.mp hp
            omega, by simp⟩
      · simp only [fz1, fz4, List.length_map, r_nil, r_cons, r_set, r_unp, r_par, r_ix1, r_ix2, r_ixp, r_ixe, r_app, r_ext, r_expr, r_ret, r_retv, r_retN, r_if, r_for, r_while, r_pass, r_brk, r_cont, q_sim, q_bin, q_neg, q_cmp, q_isN, q_notN, q_chain, q_and, q_or, q_and1, q_and2, q_or1, q_or2, q_not, q_ite, q_tup, q_lst, q_idx, q_slice, q_rev, q_blt1, q_bltv, q_blt2, q_sortset, q_lrng, q_lc, q_pop, q_index, q_es0, q_es1, q_o0, q_o1, q_c0, q_c1, q_seq, q_rng, q_enum, q_zip, g_name, g_tup, g_t0, g_t1, o_add, o_sub, o_mul, o_fdiv, o_mod, o_pow, f_d, f_nil, c_lt, c_le, c_gt, c_ge, c_eq, c_ne, at0, at1, at2, ix0, ix1, ix2, v_var, v_int, v_str, v_bl, v_non, v_glob, v_add, v_sub, v_neg, v_idx, v_len, onV_d, onV_scr, onW_d, onW_scr, onW_own, simR, sv, frzT, E.sim?, E.var?, SE.var?, Tv.item, Tv.len, PyData.itemsOf, List.map_cons, List.map_nil, List.replicate, List.cons_append, List.nil_append, List.length_cons, List.length_nil, List.set_cons_zero, List.set_cons_succ, List.getElem?_cons_zero, List.getElem?_cons_succ, Option.join_some, Option.some.injEq, Option.map_some, exists_eq', exists_eq, exists_eq_left', exists_eq_left, exists_and_left, Option.bind_some, Option.bind_eq_bind, Option.pure_def, wipeR, restR, keepD, Tv.d.injEq, Tv.own.injEq, PyData.int.injEq, PyData.bool.injEq, PyData.tuple.injEq, PyData.list.injEq, PyData.str.injEq, List.cons.injEq, and_true, if_tt, if_ff, Option.bind_none, Option.getD_none, Option.getD_some, Int.sub_zero, Int.zero_add, and_assoc, true_and, exists_const, Nat.reduceAdd, Nat.reduceLT, Nat.reduceSub, Nat.zero_add]
        refine ⟨small64 (by omega), fs ++ [sitD k B A [(k : Int)]], by rw [hnext, List.map_append, hfn, ← List.append_assoc, List.map_append (l₂ := [_]), List.map_cons, norm_swap, List.map_cons, List.map_nil], fun f hf => ?_, by simp [sitD]⟩
        rcases List.mem_append.mp hf with h | h
        · exact hfs f h
        · exact ⟨_, _, _, _, List.mem_singleton.mp h, by omega, by omega, by omega, by omega, by omega, by omega, fun p hp => by
            have e := List.mem_singleton.mp hp
            omega, by simp⟩
    · rintro ρ2 ⟨fs, hfn, hfs, rfl⟩
      simp only [List.length_map, List.length_range] at hfn
      simp only [r_nil, r_cons, r_set, r_unp, r_par, r_ix1, r_ix2, r_ixp, r_ixe, r_app, r_ext, r_expr, r_ret, r_retv, r_retN, r_if, r_for, r_while, r_pass, r_brk, r_cont, q_sim, q_bin, q_neg, q_cmp, q_isN, q_notN, q_chain, q_and, q_or, q_and1, q_and2, q_or1, q_or2, q_not, q_ite, q_tup, q_lst, q_idx, q_slice, q_rev, q_blt1, q_bltv, q_blt2, q_sortset, q_lrng, q_lc, q_pop, q_index, q_es0, q_es1, q_o0, q_o1, q_c0, q_c1, q_seq, q_rng, q_enum, q_zip, g_name, g_tup, g_t0, g_t1, o_add, o_sub, o_mul, o_fdiv, o_mod, o_pow, f_d, f_nil, c_lt, c_le, c_gt, c_ge, c_eq, c_ne, at0, at1, at2, ix0, ix1, ix2, v_var, v_int, v_str, v_bl, v_non, v_glob, v_add, v_sub, v_neg, v_idx, v_len, onV_d, onV_scr, onW_d, onW_scr, onW_own, simR, sv, frzT, E.sim?, E.var?, SE.var?, Tv.item, Tv.len, PyData.itemsOf, List.map_cons, List.map_nil, List.replicate, List.cons_append, List.nil_append, List.length_cons, List.length_nil, List.set_cons_zero, List.set_cons_succ, List.getElem?_cons_zero, List.getElem?_cons_succ, Option.join_some, Option.some.injEq, Option.map_some, exists_eq', exists_eq, exists_eq_left', exists_eq_left, exists_and_left, Option.bind_some, Option.bind_eq_bind, Option.pure_def, wipeR, restR, keepD, Tv.d.injEq, Tv.own.injEq, PyData.int.injEq, PyData.bool.injEq, PyData.tuple.injEq, PyData.list.injEq, PyData.str.injEq, List.cons.injEq, and_true, if_tt, if_ff, Option.bind_none, Option.getD_none, Option.getD_some, Int.sub_zero, Int.zero_add, and_assoc, true_and, exists_const, Nat.reduceAdd, Nat.reduceLT, Nat.reduceSub, Nat.zero_add]
      refine ⟨fs, ?_, hfs, rfl⟩
      rw [hfn]
      congr 1
      unfold ringL
      rw [List.range_succ, List.flatMap_append, List.flatMap_cons, List.flatMap_nil, List.append_nil]
  · rintro ρ2 ⟨fs, hfn, hfs, rfl⟩
    simp only [List.length_map, List.length_range, Int.sub_zero] at hfn
    have hRL := hRL (2 * sz - 1).toNat (by omega)
    have hfit := (fit_of hRL.2 (ring_fit h1 h2)).norms hfn
    have hfl := nlen _ _ hfn
    simp only [f_own, r_nil, r_cons, r_set, r_unp, r_par, r_ix1, r_ix2, r_ixp, r_ixe, r_app, r_ext, r_expr, r_ret, r_retv, r_retN, r_if, r_for, r_while, r_pass, r_brk, r_cont, q_sim, q_bin, q_neg, q_cmp, q_isN, q_notN, q_chain, q_and, q_or, q_and1, q_and2, q_or1, q_or2, q_not, q_ite, q_tup, q_lst, q_idx, q_slice, q_rev, q_blt1, q_bltv, q_blt2, q_sortset, q_lrng, q_lc, q_pop, q_index, q_es0, q_es1, q_o0, q_o1, q_c0, q_c1, q_seq, q_rng, q_enum, q_zip, g_name, g_tup, g_t0, g_t1, o_add, o_sub, o_mul, o_fdiv, o_mod, o_pow, f_d, f_nil, c_lt, c_le, c_gt, c_ge, c_eq, c_ne, at0, at1, at2, ix0, ix1, ix2, v_var, v_int, v_str, v_bl, v_non, v_glob, v_add, v_sub, v_neg, v_idx, v_len, onV_d, onV_scr, onW_d, onW_scr, onW_own, simR, sv, frzT, E.sim?, E.var?, SE.var?, Tv.item, Tv.len, PyData.itemsOf, List.map_cons, List.map_nil, List.replicate, List.cons_append, List.nil_append, List.length_cons, List.length_nil, List.set_cons_zero, List.set_cons_succ, List.getElem?_cons_zero, List.getElem?_cons_succ, Option.join_some, Option.some.injEq, Option.map_some, exists_eq', exists_eq, exists_eq_left', exists_eq_left, exists_and_left, Option.bind_some, Option.bind_eq_bind, Option.pure_def, wipeR, restR, keepD, Tv.d.injEq, Tv.own.injEq, PyData.int.injEq, PyData.bool.injEq, PyData.tuple.injEq, PyData.list.injEq, PyData.str.injEq, List.cons.injEq, and_true, if_tt, if_ff, Option.bind_none, Option.getD_none, Option.getD_some, Int.sub_zero, Int.zero_add, and_assoc, true_and, exists_const, Nat.reduceAdd, Nat.reduceLT, Nat.reduceSub, Nat.zero_add]
    refine b_sortedD (sits_ok hfs) ?_
    simp only [b_tuple, fz3, r_nil, r_cons, r_set, r_unp, r_par, r_ix1, r_ix2, r_ixp, r_ixe, r_app, r_ext, r_expr, r_ret, r_retv, r_retN, r_if, r_for, r_while, r_pass, r_brk, r_cont, q_sim, q_bin, q_neg, q_cmp, q_isN, q_notN, q_chain, q_and, q_or, q_and1, q_and2, q_or1, q_or2, q_not, q_ite, q_tup, q_lst, q_idx, q_slice, q_rev, q_blt1, q_bltv, q_blt2, q_sortset, q_lrng, q_lc, q_pop, q_index, q_es0, q_es1, q_o0, q_o1, q_c0, q_c1, q_seq, q_rng, q_enum, q_zip, g_name, g_tup, g_t0, g_t1, o_add, o_sub, o_mul, o_fdiv, o_mod, o_pow, f_d, f_nil, c_lt, c_le, c_gt, c_ge, c_eq, c_ne, at0, at1, at2, ix0, ix1, ix2, v_var, v_int, v_str, v_bl, v_non, v_glob, v_add, v_sub, v_neg, v_idx, v_len, onV_d, onV_scr, onW_d, onW_scr, onW_own, simR, sv, frzT, E.sim?, E.var?, SE.var?, Tv.item, Tv.len, PyData.itemsOf, List.map_cons, List.map_nil, List.replicate, List.cons_append, List.nil_append, List.length_cons, List.length_nil, List.set_cons_zero, List.set_cons_succ, List.getElem?_cons_zero, List.getElem?_cons_succ, Option.join_some, Option.some.injEq, Option.map_some, exists_eq', exists_eq, exists_eq_left', exists_eq_left, exists_and_left, Option.bind_some, Option.bind_eq_bind, Option.pure_def, wipeR, restR, keepD, Tv.d.injEq, Tv.own.injEq, PyData.int.injEq, PyData.bool.injEq, PyData.tuple.injEq, PyData.list.injEq, PyData.str.injEq, List.cons.injEq, and_true, if_tt, if_ff, Option.bind_none, Option.getD_none, Option.getD_some, Int.sub_zero, Int.zero_add, and_assoc, true_and, exists_const, Nat.reduceAdd, Nat.reduceLT, Nat.reduceSub, Nat.zero_add]
    have e : 2 * sz - 1 + 1 = 2 * sz := by omega
    rw [e]
    exact hq _ _ (plan_sorted (by omega) (by omega) (by omega) (by omega) (by omega) hfs hfit)
end Tr
set_option Elab.async false
set_option linter.all false
set_option maxRecDepth 100000
set_option maxHeartbeats 4000000
set_option exponentiation.threshold 3000
namespace Tr
open PySem PySem.Spec PyProof.Rows L2
def bDrawn3 : SL := (.cons (.par [3, 4, 5] (.cons (.bin .add (.sim (.int 2)) (.call "_law_take" (.cons (.sim (.var 0)) (.cons (.bin .sub (.sim (.var 1)) (.sim (.int 1))) .nil)))) (.cons (.bin .add (.sim (.int 1)) (.call "_law_take" (.cons (.sim (.var 0)) (.cons (.sim (.int 5)) .nil)))) (.cons (.lst .nil) .nil))))
  (.cons (.for_ (.name 2) (.rng .non (.call "_law_take" (.cons (.sim (.var 0)) (.cons (.sim (.int 13)) .nil))))
  (.cons (.set 6 (.call "_law_take" (.cons (.sim (.var 0)) (.cons (.sim (.var 3)) .nil))))
  (.cons (.set 7 (.bin .mod (.bltv .int (.bin .add (.bin .add (.sim (.var 6)) (.sim (.int 1))) (.call "_law_take" (.cons (.sim (.var 0)) (.cons (.bin .sub (.sim (.var 3)) (.sim (.int 1))) .nil))))) (.sim (.var 3))))
  (.cons (.set 8 (.blt1 .tuple (.sortset (.lc (.call "_law_take" (.cons (.sim (.var 0)) (.cons (.sim (.var 4)) .nil))) (.name 10) (.rng .non (.bin .add (.sim (.int 1)) (.bin .fdiv (.call "_law_take" (.cons (.sim (.var 0)) (.cons (.sim (.int 3)) .nil))) (.sim (.int 2))))) .non [10]))))
  (.cons (.set 9 (.tup (.cons (.call "_law_take" (.cons (.sim (.var 0)) (.cons (.sim (.int 6)) .nil))) (.cons (.sim (.var 6)) (.cons (.sim (.var 7)) (.cons (.sim (.var 8)) .nil))))))
  (.cons (.ite (.callL "_law_can_sit" [(.var 9), (.var 5)])
  (.cons (.app 5 (.sim (.var 9)))
  .nil)
  .nil)
  .nil)))))
  [2, 6, 7, 8, 9])
  (.cons (.ret (.tup (.cons (.sim (.var 3)) (.cons (.sim (.var 4)) (.cons (.blt1 .tuple (.blt1 .sorted (.sim (.var 5)))) .nil)))))
  .nil)))
def feCanSit : FE := ⟨["_law_sitting", "_law_others"], [], none, spCanSit⟩
def spDrawn3 : FS := fun xs Q => ∃ a b c m : Int, xs = [deck a b c, .d (.int m)] ∧ 2 ≤ m ∧ m ≤ 10 ∧ ∀ pr pk ss a b c rest, PlanOk pr pk ss → Q (.d (planD pr pk ss)) (some (deck a b c) :: rest)
theorem lt_big {m : Int} (h : m < 1000) : m < 2 ^ 2000 := Int.lt_trans h (by decide)
theorem args1 {x : PyData} : argTs [.d x] = some [.d x] := rfl
theorem args2 {x : PyData} {ds : List PyData} : argTs [.d x, .own (ds.map .d)] = some [.d x, .d (.list ds)] := by
  simp only [argTs, argT, f_own, Option.map_some]
theorem ok_drawn3 {Γ : Gam} {Φ : Phi} (hT : Φ "_law_take" = some feTake3) (hC : Φ "_law_can_sit" = some feCanSit) : ∀ xs Q, spDrawn3 xs Q → fsOf Γ Φ 2 11 bDrawn3 xs Q := by
  rintro xs Q ⟨a, b, c, m, rfl, h1, h2, hq⟩
  refine ⟨rfl, ?_⟩
  rw [bDrawn3, r_cons]
  simp only [q_callO hT rfl, args1, feTake3, List.zip_cons_cons, List.zip_nil_right, List.foldl_cons, List.foldl_nil, r_nil, r_set, r_unp, r_par, r_ix1, r_ix2, r_ixp, r_ixe, r_app, r_ext, r_expr, r_ret, r_retv, r_retN, r_if, r_for, r_while, r_pass, r_brk, r_cont, q_sim, q_bin, q_neg, q_cmp, q_isN, q_notN, q_chain, q_and, q_or, q_and1, q_and2, q_or1, q_or2, q_not, q_ite, q_tup, q_lst, q_idx, q_slice, q_rev, q_blt1, q_bltv, q_blt2, q_sortset, q_lrng, q_lc, q_pop, q_index, q_es0, q_es1, q_o0, q_o1, q_c0, q_c1, q_seq, q_rng, q_enum, q_zip, g_name, g_tup, g_t0, g_t1, o_add, o_sub, o_mul, o_fdiv, o_mod, o_pow, f_d, f_nil, c_lt, c_le, c_gt, c_ge, c_eq, c_ne, at0, at1, at2, ix0, ix1, ix2, v_var, v_int, v_str, v_bl, v_non, v_glob, v_add, v_sub, v_neg, v_idx, v_len, onV_d, onV_scr, onW_d, onW_scr, onW_own, simR, sv, frzT, E.sim?, E.var?, SE.var?, Tv.item, Tv.len, PyData.itemsOf, List.map_cons, List.map_nil, List.replicate, List.cons_append, List.nil_append, List.length_cons, List.length_nil, List.set_cons_zero, List.set_cons_succ, List.getElem?_cons_zero, List.getElem?_cons_succ, Option.join_some, Option.some.injEq, Option.map_some, exists_eq', exists_eq, exists_eq_left', exists_eq_left, exists_and_left, Option.bind_some, Option.bind_eq_bind, Option.pure_def, wipeR, restR, keepD, Tv.d.injEq, Tv.own.injEq, PyData.int.injEq, PyData.bool.injEq, PyData.tuple.injEq, PyData.list.injEq, PyData.str.injEq, List.cons.injEq, and_true, if_tt, if_ff, Option.bind_none, Option.getD_none, Option.getD_some, Int.sub_zero, Int.zero_add, and_assoc, true_and, exists_const, Nat.reduceAdd, Nat.reduceLT, Nat.reduceSub, Nat.zero_add]
  refine ⟨_, rfl, a, b, c, _, rfl, by omega, lt_big (by omega), fun r a b c rest r0 r1 => ?_⟩
  simp only [r_nil, r_set, r_unp, r_par, r_ix1, r_ix2, r_ixp, r_ixe, r_app, r_ext, r_expr, r_ret, r_retv, r_retN, r_if, r_for, r_while, r_pass, r_brk, r_cont, q_sim, q_bin, q_neg, q_cmp, q_isN, q_notN, q_chain, q_and, q_or, q_and1, q_and2, q_or1, q_or2, q_not, q_ite, q_tup, q_lst, q_idx, q_slice, q_rev, q_blt1, q_bltv, q_blt2, q_sortset, q_lrng, q_lc, q_pop, q_index, q_es0, q_es1, q_o0, q_o1, q_c0, q_c1, q_seq, q_rng, q_enum, q_zip, g_name, g_tup, g_t0, g_t1, o_add, o_sub, o_mul, o_fdiv, o_mod, o_pow, f_d, f_nil, c_lt, c_le, c_gt, c_ge, c_eq, c_ne, at0, at1, at2, ix0, ix1, ix2, v_var, v_int, v_str, v_bl, v_non, v_glob, v_add, v_sub, v_neg, v_idx, v_len, onV_d, onV_scr, onW_d, onW_scr, onW_own, simR, sv, frzT, E.sim?, E.var?, SE.var?, Tv.item, Tv.len, PyData.itemsOf, List.map_cons, List.map_nil, List.replicate, List.cons_append, List.nil_append, List.length_cons, List.length_nil, List.set_cons_zero, List.set_cons_succ, List.getElem?_cons_zero, List.getElem?_cons_succ, Option.join_some, Option.some.injEq, Option.map_some, exists_eq', exists_eq, exists_eq_left', exists_eq_left, exists_and_left, Option.bind_some, Option.bind_eq_bind, Option.pure_def, wipeR, restR, keepD, Tv.d.injEq, Tv.own.injEq, PyData.int.injEq, PyData.bool.injEq, PyData.tuple.injEq, PyData.list.injEq, PyData.str.injEq, List.cons.injEq, and_true, if_tt, if_ff, Option.bind_none, Option.getD_none, Option.getD_some, Int.sub_zero, Int.zero_add, and_assoc, true_and, exists_const, Nat.reduceAdd, Nat.reduceLT, Nat.reduceSub, Nat.zero_add]
  refine ⟨_, rfl, a, b, c, _, rfl, by omega, lt_big (by omega), fun s a b c rest s0 s1 => ?_⟩
  simp only [r_nil, r_set, r_unp, r_par, r_ix1, r_ix2, r_ixp, r_ixe, r_app, r_ext, r_expr, r_ret, r_retv, r_retN, r_if, r_for, r_while, r_pass, r_brk, r_cont, q_sim, q_bin, q_neg, q_cmp, q_isN, q_notN, q_chain, q_and, q_or, q_and1, q_and2, q_or1, q_or2, q_not, q_ite, q_tup, q_lst, q_idx, q_slice, q_rev, q_blt1, q_bltv, q_blt2, q_sortset, q_lrng, q_lc, q_pop, q_index, q_es0, q_es1, q_o0, q_o1, q_c0, q_c1, q_seq, q_rng, q_enum, q_zip, g_name, g_tup, g_t0, g_t1, o_add, o_sub, o_mul, o_fdiv, o_mod, o_pow, f_d, f_nil, c_lt, c_le, c_gt, c_ge, c_eq, c_ne, at0, at1, at2, ix0, ix1, ix2, v_var, v_int, v_str, v_bl, v_non, v_glob, v_add, v_sub, v_neg, v_idx, v_len, onV_d, onV_scr, onW_d, onW_scr, onW_own, simR, sv, frzT, E.sim?, E.var?, SE.var?, Tv.item, Tv.len, PyData.itemsOf, List.map_cons, List.map_nil, List.replicate, List.cons_append, List.nil_append, List.length_cons, List.length_nil, List.set_cons_zero, List.set_cons_succ, List.getElem?_cons_zero, List.getElem?_cons_succ, Option.join_some, Option.some.injEq, Option.map_some, exists_eq', exists_eq, exists_eq_left', exists_eq_left, exists_and_left, Option.bind_some, Option.bind_eq_bind, Option.pure_def, wipeR, restR, keepD, Tv.d.injEq, Tv.own.injEq, PyData.int.injEq, PyData.bool.injEq, PyData.tuple.injEq, PyData.list.injEq, PyData.str.injEq, List.cons.injEq, and_true, if_tt, if_ff, Option.bind_none, Option.getD_none, Option.getD_some, Int.sub_zero, Int.zero_add, and_assoc, true_and, exists_const, Nat.reduceAdd, Nat.reduceLT, Nat.reduceSub, Nat.zero_add]
  refine ⟨by decide, by decide, ?_⟩
  have p0 : 2 ≤ 2 + r := by omega
  have p1 : 2 + r ≤ 10 := by omega
  have k0 : 1 ≤ 1 + s := by omega
  have k1 : 1 + s ≤ 5 := by omega
  generalize 2 + r = pr at p0 p1 ⊢
  generalize 1 + s = pk at k0 k1 ⊢
  rw [r_cons]
  simp only [q_callO hT rfl, args1, feTake3, r_nil, r_set, r_unp, r_par, r_ix1, r_ix2, r_ixp, r_ixe, r_app, r_ext, r_expr, r_ret, r_retv, r_retN, r_if, r_for, r_while, r_pass, r_brk, r_cont, q_sim, q_bin, q_neg, q_cmp, q_isN, q_notN, q_chain, q_and, q_or, q_and1, q_and2, q_or1, q_or2, q_not, q_ite, q_tup, q_lst, q_idx, q_slice, q_rev, q_blt1, q_bltv, q_blt2, q_sortset, q_lrng, q_lc, q_pop, q_index, q_es0, q_es1, q_o0, q_o1, q_c0, q_c1, q_seq, q_rng, q_enum, q_zip, g_name, g_tup, g_t0, g_t1, o_add, o_sub, o_mul, o_fdiv, o_mod, o_pow, f_d, f_nil, c_lt, c_le, c_gt, c_ge, c_eq, c_ne, at0, at1, at2, ix0, ix1, ix2, v_var, v_int, v_str, v_bl, v_non, v_glob, v_add, v_sub, v_neg, v_idx, v_len, onV_d, onV_scr, onW_d, onW_scr, onW_own, simR, sv, frzT, E.sim?, E.var?, SE.var?, Tv.item, Tv.len, PyData.itemsOf, List.map_cons, List.map_nil, List.replicate, List.cons_append, List.nil_append, List.length_cons, List.length_nil, List.set_cons_zero, List.set_cons_succ, List.getElem?_cons_zero, List.getElem?_cons_succ, Option.join_some, Option.some.injEq, Option.map_some, exists_eq', exists_eq, exists_eq_left', exists_eq_left, exists_and_left, Option.bind_some, Option.bind_eq_bind, Option.pure_def, wipeR, restR, keepD, Tv.d.injEq, Tv.own.injEq, PyData.int.injEq, PyData.bool.injEq, PyData.tuple.injEq, PyData.list.injEq, PyData.str.injEq, List.cons.injEq, and_true, if_tt, if_ff, Option.bind_none, Option.getD_none, Option.getD_some, Int.sub_zero, Int.zero_add, and_assoc, true_and, exists_const, Nat.reduceAdd, Nat.reduceLT, Nat.reduceSub, Nat.zero_add]
  refine ⟨_, rfl, a, b, c, _, rfl, by omega, lt_big (by omega), fun tn a b c rest t0 t1 => ?_⟩
  simp only [r_nil, r_set, r_unp, r_par, r_ix1, r_ix2, r_ixp, r_ixe, r_app, r_ext, r_expr, r_ret, r_retv, r_retN, r_if, r_for, r_while, r_pass, r_brk, r_cont, q_sim, q_bin, q_neg, q_cmp, q_isN, q_notN, q_chain, q_and, q_or, q_and1, q_and2, q_or1, q_or2, q_not, q_ite, q_tup, q_lst, q_idx, q_slice, q_rev, q_blt1, q_bltv, q_blt2, q_sortset, q_lrng, q_lc, q_pop, q_index, q_es0, q_es1, q_o0, q_o1, q_c0, q_c1, q_seq, q_rng, q_enum, q_zip, g_name, g_tup, g_t0, g_t1, o_add, o_sub, o_mul, o_fdiv, o_mod, o_pow, f_d, f_nil, c_lt, c_le, c_gt, c_ge, c_eq, c_ne, at0, at1, at2, ix0, ix1, ix2, v_var, v_int, v_str, v_bl, v_non, v_glob, v_add, v_sub, v_neg, v_idx, v_len, onV_d, onV_scr, onW_d, onW_scr, onW_own, simR, sv, frzT, E.sim?, E.var?, SE.var?, Tv.item, Tv.len, PyData.itemsOf, List.map_cons, List.map_nil, List.replicate, List.cons_append, List.nil_append, List.length_cons, List.length_nil, List.set_cons_zero, List.set_cons_succ, List.getElem?_cons_zero, List.getElem?_cons_succ, Option.join_some, Option.some.injEq, Option.map_some, exists_eq', exists_eq, exists_eq_left', exists_eq_left, exists_and_left, Option.bind_some, Option.bind_eq_bind, Option.pure_def, wipeR, restR, keepD, Tv.d.injEq, Tv.own.injEq, PyData.int.injEq, PyData.bool.injEq, PyData.tuple.injEq, PyData.list.injEq, PyData.str.injEq, List.cons.injEq, and_true, if_tt, if_ff, Option.bind_none, Option.getD_none, Option.getD_some, Int.sub_zero, Int.zero_add, and_assoc, true_and, exists_const, Nat.reduceAdd, Nat.reduceLT, Nat.reduceSub, Nat.zero_add]
  refine ⟨by decide, by decide, by omega, by omega, fun k ρ => ∃ a b c : Int, ∃ fs : List PyData, fs.length ≤ k ∧ (∀ f ∈ fs, Sit pr pk f) ∧ Fit fs ∧ ρ = [some (deck a b c), some (.d (.int m)), none, some (.d (.int pr)), some (.d (.int pk)), some (.own (fs.map .d)), none, none, none, none, none], ⟨a, b, c, [], Nat.zero_le _, fun _ z => (nomatch z), fit_nil, rfl⟩, ?_, ?_⟩
  · rintro k x ρ2 hx ⟨a, b, c, fs, hfl, hfs, hfit, rfl⟩
    have hk := (List.getElem?_eq_some_iff.mp hx).1
    simp only [List.length_map, List.length_range] at hk
    simp only [r_nil, r_set, r_unp, r_par, r_ix1, r_ix2, r_ixp, r_ixe, r_app, r_ext, r_expr, r_ret, r_retv, r_retN, r_if, r_for, r_while, r_pass, r_brk, r_cont, q_sim, q_bin, q_neg, q_cmp, q_isN, q_notN, q_chain, q_and, q_or, q_and1, q_and2, q_or1, q_or2, q_not, q_ite, q_tup, q_lst, q_idx, q_slice, q_rev, q_blt1, q_bltv, q_blt2, q_sortset, q_lrng, q_lc, q_pop, q_index, q_es0, q_es1, q_o0, q_o1, q_c0, q_c1, q_seq, q_rng, q_enum, q_zip, g_name, g_tup, g_t0, g_t1, o_add, o_sub, o_mul, o_fdiv, o_mod, o_pow, f_d, f_nil, c_lt, c_le, c_gt, c_ge, c_eq, c_ne, at0, at1, at2, ix0, ix1, ix2, v_var, v_int, v_str, v_bl, v_non, v_glob, v_add, v_sub, v_neg, v_idx, v_len, onV_d, onV_scr, onW_d, onW_scr, onW_own, simR, sv, frzT, E.sim?, E.var?, SE.var?, Tv.item, Tv.len, PyData.itemsOf, List.map_cons, List.map_nil, List.replicate, List.cons_append, List.nil_append, List.length_cons, List.length_nil, List.set_cons_zero, List.set_cons_succ, List.getElem?_cons_zero, List.getElem?_cons_succ, Option.join_some, Option.some.injEq, Option.map_some, exists_eq', exists_eq, exists_eq_left', exists_eq_left, exists_and_left, Option.bind_some, Option.bind_eq_bind, Option.pure_def, wipeR, restR, keepD, Tv.d.injEq, Tv.own.injEq, PyData.int.injEq, PyData.bool.injEq, PyData.tuple.injEq, PyData.list.injEq, PyData.str.injEq, List.cons.injEq, and_true, if_tt, if_ff, Option.bind_none, Option.getD_none, Option.getD_some, Int.sub_zero, Int.zero_add, and_assoc, true_and, exists_const, Nat.reduceAdd, Nat.reduceLT, Nat.reduceSub, Nat.zero_add]
    -- the sides
    rw [r_cons]
    simp only [q_callO hT rfl, args1, feTake3, r_nil, r_set, r_unp, r_par, r_ix1, r_ix2, r_ixp, r_ixe, r_app, r_ext, r_expr, r_ret, r_retv, r_retN, r_if, r_for, r_while, r_pass, r_brk, r_cont, q_sim, q_bin, q_neg, q_cmp, q_isN, q_notN, q_chain, q_and, q_or, q_and1, q_and2, q_or1, q_or2, q_not, q_ite, q_tup, q_lst, q_idx, q_slice, q_rev, q_blt1, q_bltv, q_blt2, q_sortset, q_lrng, q_lc, q_pop, q_index, q_es0, q_es1, q_o0, q_o1, q_c0, q_c1, q_seq, q_rng, q_enum, q_zip, g_name, g_tup, g_t0, g_t1, o_add, o_sub, o_mul, o_fdiv, o_mod, o_pow, f_d, f_nil, c_lt, c_le, c_gt, c_ge, c_eq, c_ne, at0, at1, at2, ix0, ix1, ix2, v_var, v_int, v_str, v_bl, v_non, v_glob, v_add, v_sub, v_neg, v_idx, v_len, onV_d, onV_scr, onW_d, onW_scr, onW_own, simR, sv, frzT, E.sim?, E.var?, SE.var?, Tv.item, Tv.len, PyData.itemsOf, List.map_cons, List.map_nil, List.replicate, List.cons_append, List.nil_append, List.length_cons, List.length_nil, List.set_cons_zero, List.set_cons_succ, List.getElem?_cons_zero, List.getElem?_cons_succ, Option.join_some, Option.some.injEq, Option.map_some, exists_eq', exists_eq, exists_eq_left', exists_eq_left, exists_and_left, Option.bind_some, Option.bind_eq_bind, Option.pure_def, wipeR, restR, keepD, Tv.d.injEq, Tv.own.injEq, PyData.int.injEq, PyData.bool.injEq, PyData.tuple.injEq, PyData.list.injEq, PyData.str.injEq, List.cons.injEq, and_true, if_tt, if_ff, Option.bind_none, Option.getD_none, Option.getD_some, Int.sub_zero, Int.zero_add, and_assoc, true_and, exists_const, Nat.reduceAdd, Nat.reduceLT, Nat.reduceSub, Nat.zero_add]
    refine ⟨_, rfl, a, b, c, _, rfl, by omega, lt_big (by omega), fun n a b c rest n0 n1 => ?_⟩
    simp only [r_nil, r_set, r_unp, r_par, r_ix1, r_ix2, r_ixp, r_ixe, r_app, r_ext, r_expr, r_ret, r_retv, r_retN, r_if, r_for, r_while, r_pass, r_brk, r_cont, q_sim, q_bin, q_neg, q_cmp, q_isN, q_notN, q_chain, q_and, q_or, q_and1, q_and2, q_or1, q_or2, q_not, q_ite, q_tup, q_lst, q_idx, q_slice, q_rev, q_blt1, q_bltv, q_blt2, q_sortset, q_lrng, q_lc, q_pop, q_index, q_es0, q_es1, q_o0, q_o1, q_c0, q_c1, q_seq, q_rng, q_enum, q_zip, g_name, g_tup, g_t0, g_t1, o_add, o_sub, o_mul, o_fdiv, o_mod, o_pow, f_d, f_nil, c_lt, c_le, c_gt, c_ge, c_eq, c_ne, at0, at1, at2, ix0, ix1, ix2, v_var, v_int, v_str, v_bl, v_non, v_glob, v_add, v_sub, v_neg, v_idx, v_len, onV_d, onV_scr, onW_d, onW_scr, onW_own, simR, sv, frzT, E.sim?, E.var?, SE.var?, Tv.item, Tv.len, PyData.itemsOf, List.map_cons, List.map_nil, List.replicate, List.cons_append, List.nil_append, List.length_cons, List.length_nil, List.set_cons_zero, List.set_cons_succ, List.getElem?_cons_zero, List.getElem?_cons_succ, Option.join_some, Option.some.injEq, Option.map_some, exists_eq', exists_eq, exists_eq_left', exists_eq_left, exists_and_left, Option.bind_some, Option.bind_eq_bind, Option.pure_def, wipeR, restR, keepD, Tv.d.injEq, Tv.own.injEq, PyData.int.injEq, PyData.bool.injEq, PyData.tuple.injEq, PyData.list.injEq, PyData.str.injEq, List.cons.injEq, and_true, if_tt, if_ff, Option.bind_none, Option.getD_none, Option.getD_some, Int.sub_zero, Int.zero_add, and_assoc, true_and, exists_const, Nat.reduceAdd, Nat.reduceLT, Nat.reduceSub, Nat.zero_add]
    rw [r_cons]
    simp only [q_callO hT rfl, args1, feTake3, r_nil, r_set, r_unp, r_par, r_ix1, r_ix2, r_ixp, r_ixe, r_app, r_ext, r_expr, r_ret, r_retv, r_retN, r_if, r_for, r_while, r_pass, r_brk, r_cont, q_sim, q_bin, q_neg, q_cmp, q_isN, q_notN, q_chain, q_and, q_or, q_and1, q_and2, q_or1, q_or2, q_not, q_ite, q_tup, q_lst, q_idx, q_slice, q_rev, q_blt1, q_bltv, q_blt2, q_sortset, q_lrng, q_lc, q_pop, q_index, q_es0, q_es1, q_o0, q_o1, q_c0, q_c1, q_seq, q_rng, q_enum, q_zip, g_name, g_tup, g_t0, g_t1, o_add, o_sub, o_mul, o_fdiv, o_mod, o_pow, f_d, f_nil, c_lt, c_le, c_gt, c_ge, c_eq, c_ne, at0, at1, at2, ix0, ix1, ix2, v_var, v_int, v_str, v_bl, v_non, v_glob, v_add, v_sub, v_neg, v_idx, v_len, onV_d, onV_scr, onW_d, onW_scr, onW_own, simR, sv, frzT, E.sim?, E.var?, SE.var?, Tv.item, Tv.len, PyData.itemsOf, List.map_cons, List.map_nil, List.replicate, List.cons_append, List.nil_append, List.length_cons, List.length_nil, List.set_cons_zero, List.set_cons_succ, List.getElem?_cons_zero, List.getElem?_cons_succ, Option.join_some, Option.some.injEq, Option.map_some, exists_eq', exists_eq, exists_eq_left', exists_eq_left, exists_and_left, Option.bind_some, Option.bind_eq_bind, Option.pure_def, wipeR, restR, keepD, Tv.d.injEq, Tv.own.injEq, PyData.int.injEq, PyData.bool.injEq, PyData.tuple.injEq, PyData.list.injEq, PyData.str.injEq, List.cons.injEq, and_true, if_tt, if_ff, Option.bind_none, Option.getD_none, Option.getD_some, Int.sub_zero, Int.zero_add, and_assoc, true_and, exists_const, Nat.reduceAdd, Nat.reduceLT, Nat.reduceSub, Nat.zero_add]
    refine ⟨_, rfl, a, b, c, _, rfl, by omega, lt_big (by omega), fun e a b c rest e0 e1 => ?_⟩
    simp only [b_int, r_nil, r_set, r_unp, r_par, r_ix1, r_ix2, r_ixp, r_ixe, r_app, r_ext, r_expr, r_ret, r_retv, r_retN, r_if, r_for, r_while, r_pass, r_brk, r_cont, q_sim, q_bin, q_neg, q_cmp, q_isN, q_notN, q_chain, q_and, q_or, q_and1, q_and2, q_or1, q_or2, q_not, q_ite, q_tup, q_lst, q_idx, q_slice, q_rev, q_blt1, q_bltv, q_blt2, q_sortset, q_lrng, q_lc, q_pop, q_index, q_es0, q_es1, q_o0, q_o1, q_c0, q_c1, q_seq, q_rng, q_enum, q_zip, g_name, g_tup, g_t0, g_t1, o_add, o_sub, o_mul, o_fdiv, o_mod, o_pow, f_d, f_nil, c_lt, c_le, c_gt, c_ge, c_eq, c_ne, at0, at1, at2, ix0, ix1, ix2, v_var, v_int, v_str, v_bl, v_non, v_glob, v_add, v_sub, v_neg, v_idx, v_len, onV_d, onV_scr, onW_d, onW_scr, onW_own, simR, sv, frzT, E.sim?, E.var?, SE.var?, Tv.item, Tv.len, PyData.itemsOf, List.map_cons, List.map_nil, List.replicate, List.cons_append, List.nil_append, List.length_cons, List.length_nil, List.set_cons_zero, List.set_cons_succ, List.getElem?_cons_zero, List.getElem?_cons_succ, Option.join_some, Option.some.injEq, Option.map_some, exists_eq', exists_eq, exists_eq_left', exists_eq_left, exists_and_left, Option.bind_some, Option.bind_eq_bind, Option.pure_def, wipeR, restR, keepD, Tv.d.injEq, Tv.own.injEq, PyData.int.injEq, PyData.bool.injEq, PyData.tuple.injEq, PyData.list.injEq, PyData.str.injEq, List.cons.injEq, and_true, if_tt, if_ff, Option.bind_none, Option.getD_none, Option.getD_some, Int.sub_zero, Int.zero_add, and_assoc, true_and, exists_const, Nat.reduceAdd, Nat.reduceLT, Nat.reduceSub, Nat.zero_add]
    refine ⟨by omega, ?_⟩
    have m1 := Int.emod_nonneg (n + 1 + e) (show pr ≠ 0 by omega)
    have m2 := Int.emod_lt_of_pos (n + 1 + e) (show 0 < pr by omega)
    have hne : n ≠ (n + 1 + e) % pr := fun z => by
      have h3 : pr = 2 ∨ pr = 3 ∨ pr = 4 ∨ pr = 5 ∨ pr = 6 ∨ pr = 7 ∨ pr = 8 ∨ pr = 9 ∨ pr = 10 := by omega
      rcases h3 with rfl | rfl | rfl | rfl | rfl | rfl | rfl | rfl | rfl <;> omega
    generalize (n + 1 + e) % pr = ea at m1 m2 hne ⊢
    -- the packs
    rw [r_cons]
    simp only [q_callO hT rfl, args1, feTake3, r_nil, r_set, r_unp, r_par, r_ix1, r_ix2, r_ixp, r_ixe, r_app, r_ext, r_expr, r_ret, r_retv, r_retN, r_if, r_for, r_while, r_pass, r_brk, r_cont, q_sim, q_bin, q_neg, q_cmp, q_isN, q_notN, q_chain, q_and, q_or, q_and1, q_and2, q_or1, q_or2, q_not, q_ite, q_tup, q_lst, q_idx, q_slice, q_rev, q_blt1, q_bltv, q_blt2, q_sortset, q_lrng, q_lc, q_pop, q_index, q_es0, q_es1, q_o0, q_o1, q_c0, q_c1, q_seq, q_rng, q_enum, q_zip, g_name, g_tup, g_t0, g_t1, o_add, o_sub, o_mul, o_fdiv, o_mod, o_pow, f_d, f_nil, c_lt, c_le, c_gt, c_ge, c_eq, c_ne, at0, at1, at2, ix0, ix1, ix2, v_var, v_int, v_str, v_bl, v_non, v_glob, v_add, v_sub, v_neg, v_idx, v_len, onV_d, onV_scr, onW_d, onW_scr, onW_own, simR, sv, frzT, E.sim?, E.var?, SE.var?, Tv.item, Tv.len, PyData.itemsOf, List.map_cons, List.map_nil, List.replicate, List.cons_append, List.nil_append, List.length_cons, List.length_nil, List.set_cons_zero, List.set_cons_succ, List.getElem?_cons_zero, List.getElem?_cons_succ, Option.join_some, Option.some.injEq, Option.map_some, exists_eq', exists_eq, exists_eq_left', exists_eq_left, exists_and_left, Option.bind_some, Option.bind_eq_bind, Option.pure_def, wipeR, restR, keepD, Tv.d.injEq, Tv.own.injEq, PyData.int.injEq, PyData.bool.injEq, PyData.tuple.injEq, PyData.list.injEq, PyData.str.injEq, List.cons.injEq, and_true, if_tt, if_ff, Option.bind_none, Option.getD_none, Option.getD_some, Int.sub_zero, Int.zero_add, and_assoc, true_and, exists_const, Nat.reduceAdd, Nat.reduceLT, Nat.reduceSub, Nat.zero_add]
    refine ⟨_, rfl, a, b, c, _, rfl, by omega, lt_big (by omega), fun w a b c rest w0 w1 => ?_⟩
    simp only [r_nil, r_set, r_unp, r_par, r_ix1, r_ix2, r_ixp, r_ixe, r_app, r_ext, r_expr, r_ret, r_retv, r_retN, r_if, r_for, r_while, r_pass, r_brk, r_cont, q_sim, q_bin, q_neg, q_cmp, q_isN, q_notN, q_chain, q_and, q_or, q_and1, q_and2, q_or1, q_or2, q_not, q_ite, q_tup, q_lst, q_idx, q_slice, q_rev, q_blt1, q_bltv, q_blt2, q_sortset, q_lrng, q_lc, q_pop, q_index, q_es0, q_es1, q_o0, q_o1, q_c0, q_c1, q_seq, q_rng, q_enum, q_zip, g_name, g_tup, g_t0, g_t1, o_add, o_sub, o_mul, o_fdiv, o_mod, o_pow, f_d, f_nil, c_lt, c_le, c_gt, c_ge, c_eq, c_ne, at0, at1, at2, ix0, ix1, ix2, v_var, v_int, v_str, v_bl, v_non, v_glob, v_add, v_sub, v_neg, v_idx, v_len, onV_d, onV_scr, onW_d, onW_scr, onW_own, simR, sv, frzT, E.sim?, E.var?, SE.var?, Tv.item, Tv.len, PyData.itemsOf, List.map_cons, List.map_nil, List.replicate, List.cons_append, List.nil_append, List.length_cons, List.length_nil, List.set_cons_zero, List.set_cons_succ, List.getElem?_cons_zero, List.getElem?_cons_succ, Option.join_some, Option.some.injEq, Option.map_some, exists_eq', exists_eq, exists_eq_left', exists_eq_left, exists_and_left, Option.bind_some, Option.bind_eq_bind, Option.pure_def, wipeR, restR, keepD, Tv.d.injEq, Tv.own.injEq, PyData.int.injEq, PyData.bool.injEq, PyData.tuple.injEq, PyData.list.injEq, PyData.str.injEq, List.cons.injEq, and_true, if_tt, if_ff, Option.bind_none, Option.getD_none, Option.getD_some, Int.sub_zero, Int.zero_add, and_assoc, true_and, exists_const, Nat.reduceAdd, Nat.reduceLT, Nat.reduceSub, Nat.zero_add]
    refine ⟨wide_div (b := 2) (by decide) (by decide) (by decide) (by decide), by decide, by decide, by omega, by omega, ?_⟩
    have hw : (1 + w / 2).toNat ≤ 2 := by omega
    generalize (1 + w / 2).toNat = W at hw ⊢
    refine ⟨fun j acc ρ => ∃ a b c : Int, ∃ L : List Int, acc = (L.map PyData.int).map Tv.d ∧ L.length = j ∧ (∀ p ∈ L, 0 ≤ p ∧ p < pk) ∧ ρ = [some (deck a b c), some (.d (.int m)), some (.d x), some (.d (.int pr)), some (.d (.int pk)), some (.own (fs.map .d)), some (.d (.int n)), some (.d (.int ea)), none, none, none], ⟨a, b, c, [], rfl, rfl, fun _ z => (nomatch z), rfl⟩, ?_, ?_⟩
    · rintro j y acc ρ2 hy ⟨a, b, c, L, rfl, hL, hLp, rfl⟩
      have hj := (List.getElem?_eq_some_iff.mp hy).1
      simp only [List.length_map, List.length_range] at hj
      simp only [q_callO hT rfl, args1, feTake3, r_nil, r_cons, r_set, r_unp, r_par, r_ix1, r_ix2, r_ixp, r_ixe, r_app, r_ext, r_expr, r_ret, r_retv, r_retN, r_if, r_for, r_while, r_pass, r_brk, r_cont, q_sim, q_bin, q_neg, q_cmp, q_isN, q_notN, q_chain, q_and, q_or, q_and1, q_and2, q_or1, q_or2, q_not, q_ite, q_tup, q_lst, q_idx, q_slice, q_rev, q_blt1, q_bltv, q_blt2, q_sortset, q_lrng, q_lc, q_pop, q_index, q_es0, q_es1, q_o0, q_o1, q_c0, q_c1, q_seq, q_rng, q_enum, q_zip, g_name, g_tup, g_t0, g_t1, o_add, o_sub, o_mul, o_fdiv, o_mod, o_pow, f_d, f_nil, c_lt, c_le, c_gt, c_ge, c_eq, c_ne, at0, at1, at2, ix0, ix1, ix2, v_var, v_int, v_str, v_bl, v_non, v_glob, v_add, v_sub, v_neg, v_idx, v_len, onV_d, onV_scr, onW_d, onW_scr, onW_own, simR, sv, frzT, E.sim?, E.var?, SE.var?, Tv.item, Tv.len, PyData.itemsOf, List.map_cons, List.map_nil, List.replicate, List.cons_append, List.nil_append, List.length_cons, List.length_nil, List.set_cons_zero, List.set_cons_succ, List.getElem?_cons_zero, List.getElem?_cons_succ, Option.join_some, Option.some.injEq, Option.map_some, exists_eq', exists_eq, exists_eq_left', exists_eq_left, exists_and_left, Option.bind_some, Option.bind_eq_bind, Option.pure_def, wipeR, restR, keepD, Tv.d.injEq, Tv.own.injEq, PyData.int.injEq, PyData.bool.injEq, PyData.tuple.injEq, PyData.list.injEq, PyData.str.injEq, List.cons.injEq, and_true, if_tt, if_ff, Option.bind_none, Option.getD_none, Option.getD_some, Int.sub_zero, Int.zero_add, and_assoc, true_and, exists_const, Nat.reduceAdd, Nat.reduceLT, Nat.reduceSub, Nat.zero_add]
      refine ⟨fun _ => ⟨_, rfl, a, b, c, _, rfl, by omega, lt_big (by omega), fun p a b c rest q0 q1 => ?_⟩, fun z => (nomatch z)⟩
      simp only [List.length_map, r_nil, r_cons, r_set, r_unp, r_par, r_ix1, r_ix2, r_ixp, r_ixe, r_app, r_ext, r_expr, r_ret, r_retv, r_retN, r_if, r_for, r_while, r_pass, r_brk, r_cont, q_sim, q_bin, q_neg, q_cmp, q_isN, q_notN, q_chain, q_and, q_or, q_and1, q_and2, q_or1, q_or2, q_not, q_ite, q_tup, q_lst, q_idx, q_slice, q_rev, q_blt1, q_bltv, q_blt2, q_sortset, q_lrng, q_lc, q_pop, q_index, q_es0, q_es1, q_o0, q_o1, q_c0, q_c1, q_seq, q_rng, q_enum, q_zip, g_name, g_tup, g_t0, g_t1, o_add, o_sub, o_mul, o_fdiv, o_mod, o_pow, f_d, f_nil, c_lt, c_le, c_gt, c_ge, c_eq, c_ne, at0, at1, at2, ix0, ix1, ix2, v_var, v_int, v_str, v_bl, v_non, v_glob, v_add, v_sub, v_neg, v_idx, v_len, onV_d, onV_scr, onW_d, onW_scr, onW_own, simR, sv, frzT, E.sim?, E.var?, SE.var?, Tv.item, Tv.len, PyData.itemsOf, List.map_cons, List.map_nil, List.replicate, List.cons_append, List.nil_append, List.length_cons, List.length_nil, List.set_cons_zero, List.set_cons_succ, List.getElem?_cons_zero, List.getElem?_cons_succ, Option.join_some, Option.some.injEq, Option.map_some, exists_eq', exists_eq, exists_eq_left', exists_eq_left, exists_and_left, Option.bind_some, Option.bind_eq_bind, Option.pure_def, wipeR, restR, keepD, Tv.d.injEq, Tv.own.injEq, PyData.int.injEq, PyData.bool.injEq, PyData.tuple.injEq, PyData.list.injEq, PyData.str.injEq, List.cons.injEq, and_true, if_tt, if_ff, Option.bind_none, Option.getD_none, Option.getD_some, Int.sub_zero, Int.zero_add, and_assoc, true_and, exists_const, Nat.reduceAdd, Nat.reduceLT, Nat.reduceSub, Nat.zero_add]
      refine ⟨small64 (by omega), a, b, c, L ++ [p], by simp, by simp [hL], fun q hq => ?_, rfl⟩
      rcases List.mem_append.mp hq with h | h
      · exact hLp q h
      · have e := List.mem_singleton.mp h
        omega
    rintro acc ρ2 ⟨a, b, c, L, rfl, hL, hLp, rfl⟩
    simp only [List.length_map, List.length_range] at hL
    simp only [f_own, intsOf_map, map_map_d, r_nil, r_set, r_unp, r_par, r_ix1, r_ix2, r_ixp, r_ixe, r_app, r_ext, r_expr, r_ret, r_retv, r_retN, r_if, r_for, r_while, r_pass, r_brk, r_cont, q_sim, q_bin, q_neg, q_cmp, q_isN, q_notN, q_chain, q_and, q_or, q_and1, q_and2, q_or1, q_or2, q_not, q_ite, q_tup, q_lst, q_idx, q_slice, q_rev, q_blt1, q_bltv, q_blt2, q_sortset, q_lrng, q_lc, q_pop, q_index, q_es0, q_es1, q_o0, q_o1, q_c0, q_c1, q_seq, q_rng, q_enum, q_zip, g_name, g_tup, g_t0, g_t1, o_add, o_sub, o_mul, o_fdiv, o_mod, o_pow, f_d, f_nil, c_lt, c_le, c_gt, c_ge, c_eq, c_ne, at0, at1, at2, ix0, ix1, ix2, v_var, v_int, v_str, v_bl, v_non, v_glob, v_add, v_sub, v_neg, v_idx, v_len, onV_d, onV_scr, onW_d, onW_scr, onW_own, simR, sv, frzT, E.sim?, E.var?, SE.var?, Tv.item, Tv.len, PyData.itemsOf, List.map_cons, List.map_nil, List.replicate, List.cons_append, List.nil_append, List.length_cons, List.length_nil, List.set_cons_zero, List.set_cons_succ, List.getElem?_cons_zero, List.getElem?_cons_succ, Option.join_some, Option.some.injEq, Option.map_some, exists_eq', exists_eq, exists_eq_left', exists_eq_left, exists_and_left, Option.bind_some, Option.bind_eq_bind, Option.pure_def, wipeR, restR, keepD, Tv.d.injEq, Tv.own.injEq, PyData.int.injEq, PyData.bool.injEq, PyData.tuple.injEq, PyData.list.injEq, PyData.str.injEq, List.cons.injEq, and_true, if_tt, if_ff, Option.bind_none, Option.getD_none, Option.getD_some, Int.sub_zero, Int.zero_add, and_assoc, true_and, exists_const, Nat.reduceAdd, Nat.reduceLT, Nat.reduceSub, Nat.zero_add]
    refine ⟨by omega, fun ms hms => ?_⟩
    simp only [b_tuple, r_nil, r_set, r_unp, r_par, r_ix1, r_ix2, r_ixp, r_ixe, r_app, r_ext, r_expr, r_ret, r_retv, r_retN, r_if, r_for, r_while, r_pass, r_brk, r_cont, q_sim, q_bin, q_neg, q_cmp, q_isN, q_notN, q_chain, q_and, q_or, q_and1, q_and2, q_or1, q_or2, q_not, q_ite, q_tup, q_lst, q_idx, q_slice, q_rev, q_blt1, q_bltv, q_blt2, q_sortset, q_lrng, q_lc, q_pop, q_index, q_es0, q_es1, q_o0, q_o1, q_c0, q_c1, q_seq, q_rng, q_enum, q_zip, g_name, g_tup, g_t0, g_t1, o_add, o_sub, o_mul, o_fdiv, o_mod, o_pow, f_d, f_nil, c_lt, c_le, c_gt, c_ge, c_eq, c_ne, at0, at1, at2, ix0, ix1, ix2, v_var, v_int, v_str, v_bl, v_non, v_glob, v_add, v_sub, v_neg, v_idx, v_len, onV_d, onV_scr, onW_d, onW_scr, onW_own, simR, sv, frzT, E.sim?, E.var?, SE.var?, Tv.item, Tv.len, PyData.itemsOf, List.map_cons, List.map_nil, List.replicate, List.cons_append, List.nil_append, List.length_cons, List.length_nil, List.set_cons_zero, List.set_cons_succ, List.getElem?_cons_zero, List.getElem?_cons_succ, Option.join_some, Option.some.injEq, Option.map_some, exists_eq', exists_eq, exists_eq_left', exists_eq_left, exists_and_left, Option.bind_some, Option.bind_eq_bind, Option.pure_def, wipeR, restR, keepD, Tv.d.injEq, Tv.own.injEq, PyData.int.injEq, PyData.bool.injEq, PyData.tuple.injEq, PyData.list.injEq, PyData.str.injEq, List.cons.injEq, and_true, if_tt, if_ff, Option.bind_none, Option.getD_none, Option.getD_some, Int.sub_zero, Int.zero_add, and_assoc, true_and, exists_const, Nat.reduceAdd, Nat.reduceLT, Nat.reduceSub, Nat.zero_add]
    have hms2 := sub_len hms
    have hmp : ∀ p ∈ ms, 0 ≤ p ∧ p < pk := fun p hp => hLp p ((hms.2 p).mp hp)
    -- the sitting
    rw [r_cons]
    simp only [q_callO hT rfl, args1, feTake3, r_nil, r_set, r_unp, r_par, r_ix1, r_ix2, r_ixp, r_ixe, r_app, r_ext, r_expr, r_ret, r_retv, r_retN, r_if, r_for, r_while, r_pass, r_brk, r_cont, q_sim, q_bin, q_neg, q_cmp, q_isN, q_notN, q_chain, q_and, q_or, q_and1, q_and2, q_or1, q_or2, q_not, q_ite, q_tup, q_lst, q_idx, q_slice, q_rev, q_blt1, q_bltv, q_blt2, q_sortset, q_lrng, q_lc, q_pop, q_index, q_es0, q_es1, q_o0, q_o1, q_c0, q_c1, q_seq, q_rng, q_enum, q_zip, g_name, g_tup, g_t0, g_t1, o_add, o_sub, o_mul, o_fdiv, o_mod, o_pow, f_d, f_nil, c_lt, c_le, c_gt, c_ge, c_eq, c_ne, at0, at1, at2, ix0, ix1, ix2, v_var, v_int, v_str, v_bl, v_non, v_glob, v_add, v_sub, v_neg, v_idx, v_len, onV_d, onV_scr, onW_d, onW_scr, onW_own, simR, sv, frzT, E.sim?, E.var?, SE.var?, Tv.item, Tv.len, PyData.itemsOf, List.map_cons, List.map_nil, List.replicate, List.cons_append, List.nil_append, List.length_cons, List.length_nil, List.set_cons_zero, List.set_cons_succ, List.getElem?_cons_zero, List.getElem?_cons_succ, Option.join_some, Option.some.injEq, Option.map_some, exists_eq', exists_eq, exists_eq_left', exists_eq_left, exists_and_left, Option.bind_some, Option.bind_eq_bind, Option.pure_def, wipeR, restR, keepD, Tv.d.injEq, Tv.own.injEq, PyData.int.injEq, PyData.bool.injEq, PyData.tuple.injEq, PyData.list.injEq, PyData.str.injEq, List.cons.injEq, and_true, if_tt, if_ff, Option.bind_none, Option.getD_none, Option.getD_some, Int.sub_zero, Int.zero_add, and_assoc, true_and, exists_const, Nat.reduceAdd, Nat.reduceLT, Nat.reduceSub, Nat.zero_add]
    refine ⟨_, rfl, a, b, c, _, rfl, by omega, lt_big (by omega), fun t a b c rest t0' t1' => ?_⟩
    simp only [fz4, r_nil, r_set, r_unp, r_par, r_ix1, r_ix2, r_ixp, r_ixe, r_app, r_ext, r_expr, r_ret, r_retv, r_retN, r_if, r_for, r_while, r_pass, r_brk, r_cont, q_sim, q_bin, q_neg, q_cmp, q_isN, q_notN, q_chain, q_and, q_or, q_and1, q_and2, q_or1, q_or2, q_not, q_ite, q_tup, q_lst, q_idx, q_slice, q_rev, q_blt1, q_bltv, q_blt2, q_sortset, q_lrng, q_lc, q_pop, q_index, q_es0, q_es1, q_o0, q_o1, q_c0, q_c1, q_seq, q_rng, q_enum, q_zip, g_name, g_tup, g_t0, g_t1, o_add, o_sub, o_mul, o_fdiv, o_mod, o_pow, f_d, f_nil, c_lt, c_le, c_gt, c_ge, c_eq, c_ne, at0, at1, at2, ix0, ix1, ix2, v_var, v_int, v_str, v_bl, v_non, v_glob, v_add, v_sub, v_neg, v_idx, v_len, onV_d, onV_scr, onW_d, onW_scr, onW_own, simR, sv, frzT, E.sim?, E.var?, SE.var?, Tv.item, Tv.len, PyData.itemsOf, List.map_cons, List.map_nil, List.replicate, List.cons_append, List.nil_append, List.length_cons, List.length_nil, List.set_cons_zero, List.set_cons_succ, List.getElem?_cons_zero, List.getElem?_cons_succ, Option.join_some, Option.some.injEq, Option.map_some, exists_eq', exists_eq, exists_eq_left', exists_eq_left, exists_and_left, Option.bind_some, Option.bind_eq_bind, Option.pure_def, wipeR, restR, keepD, Tv.d.injEq, Tv.own.injEq, PyData.int.injEq, PyData.bool.injEq, PyData.tuple.injEq, PyData.list.injEq, PyData.str.injEq, List.cons.injEq, and_true, if_tt, if_ff, Option.bind_none, Option.getD_none, Option.getD_some, Int.sub_zero, Int.zero_add, and_assoc, true_and, exists_const, Nat.reduceAdd, Nat.reduceLT, Nat.reduceSub, Nat.zero_add]
    rw [r_cons]
    have hsit : Sit pr pk (sitD t n ea ms) := ⟨t, n, ea, ms, rfl, t0', by omega, n0, n1, m1, m2, hmp, by omega⟩
    simp only [q_callL hC rfl, svs, args2, feCanSit, r_nil, r_set, r_unp, r_par, r_ix1, r_ix2, r_ixp, r_ixe, r_app, r_ext, r_expr, r_ret, r_retv, r_retN, r_if, r_for, r_while, r_pass, r_brk, r_cont, q_sim, q_bin, q_neg, q_cmp, q_isN, q_notN, q_chain, q_and, q_or, q_and1, q_and2, q_or1, q_or2, q_not, q_ite, q_tup, q_lst, q_idx, q_slice, q_rev, q_blt1, q_bltv, q_blt2, q_sortset, q_lrng, q_lc, q_pop, q_index, q_es0, q_es1, q_o0, q_o1, q_c0, q_c1, q_seq, q_rng, q_enum, q_zip, g_name, g_tup, g_t0, g_t1, o_add, o_sub, o_mul, o_fdiv, o_mod, o_pow, f_d, f_nil, c_lt, c_le, c_gt, c_ge, c_eq, c_ne, at0, at1, at2, ix0, ix1, ix2, v_var, v_int, v_str, v_bl, v_non, v_glob, v_add, v_sub, v_neg, v_idx, v_len, onV_d, onV_scr, onW_d, onW_scr, onW_own, simR, sv, frzT, E.sim?, E.var?, SE.var?, Tv.item, Tv.len, PyData.itemsOf, List.map_cons, List.map_nil, List.replicate, List.cons_append, List.nil_append, List.length_cons, List.length_nil, List.set_cons_zero, List.set_cons_succ, List.getElem?_cons_zero, List.getElem?_cons_succ, Option.join_some, Option.some.injEq, Option.map_some, exists_eq', exists_eq, exists_eq_left', exists_eq_left, exists_and_left, Option.bind_some, Option.bind_eq_bind, Option.pure_def, wipeR, restR, keepD, Tv.d.injEq, Tv.own.injEq, PyData.int.injEq, PyData.bool.injEq, PyData.tuple.injEq, PyData.list.injEq, PyData.str.injEq, List.cons.injEq, and_true, if_tt, if_ff, Option.bind_none, Option.getD_none, Option.getD_some, Int.sub_zero, Int.zero_add, and_assoc, true_and, exists_const, Nat.reduceAdd, Nat.reduceLT, Nat.reduceSub, Nat.zero_add]
    refine ⟨pr, pk, _, fs, rfl, hsit, hfs, fun ok rest hap => ⟨rfl, ?_⟩⟩
    simp only [r_nil, r_set, r_unp, r_par, r_ix1, r_ix2, r_ixp, r_ixe, r_app, r_ext, r_expr, r_ret, r_retv, r_retN, r_if, r_for, r_while, r_pass, r_brk, r_cont, q_sim, q_bin, q_neg, q_cmp, q_isN, q_notN, q_chain, q_and, q_or, q_and1, q_and2, q_or1, q_or2, q_not, q_ite, q_tup, q_lst, q_idx, q_slice, q_rev, q_blt1, q_bltv, q_blt2, q_sortset, q_lrng, q_lc, q_pop, q_index, q_es0, q_es1, q_o0, q_o1, q_c0, q_c1, q_seq, q_rng, q_enum, q_zip, g_name, g_tup, g_t0, g_t1, o_add, o_sub, o_mul, o_fdiv, o_mod, o_pow, f_d, f_nil, c_lt, c_le, c_gt, c_ge, c_eq, c_ne, at0, at1, at2, ix0, ix1, ix2, v_var, v_int, v_str, v_bl, v_non, v_glob, v_add, v_sub, v_neg, v_idx, v_len, onV_d, onV_scr, onW_d, onW_scr, onW_own, simR, sv, frzT, E.sim?, E.var?, SE.var?, Tv.item, Tv.len, PyData.itemsOf, List.map_cons, List.map_nil, List.replicate, List.cons_append, List.nil_append, List.length_cons, List.length_nil, List.set_cons_zero, List.set_cons_succ, List.getElem?_cons_zero, List.getElem?_cons_succ, Option.join_some, Option.some.injEq, Option.map_some, exists_eq', exists_eq, exists_eq_left', exists_eq_left, exists_and_left, Option.bind_some, Option.bind_eq_bind, Option.pure_def, wipeR, restR, keepD, Tv.d.injEq, Tv.own.injEq, PyData.int.injEq, PyData.bool.injEq, PyData.tuple.injEq, PyData.list.injEq, PyData.str.injEq, List.cons.injEq, and_true, if_tt, if_ff, Option.bind_none, Option.getD_none, Option.getD_some, Int.sub_zero, Int.zero_add, and_assoc, true_and, exists_const, Nat.reduceAdd, Nat.reduceLT, Nat.reduceSub, Nat.zero_add]
    refine if_l (fun hok => ?_) fun _ => ?_
    · simp only [List.length_map, r_nil, r_cons, r_set, r_unp, r_par, r_ix1, r_ix2, r_ixp, r_ixe, r_app, r_ext, r_expr, r_ret, r_retv, r_retN, r_if, r_for, r_while, r_pass, r_brk, r_cont, q_sim, q_bin, q_neg, q_cmp, q_isN, q_notN, q_chain, q_and, q_or, q_and1, q_and2, q_or1, q_or2, q_not, q_ite, q_tup, q_lst, q_idx, q_slice, q_rev, q_blt1, q_bltv, q_blt2, q_sortset, q_lrng, q_lc, q_pop, q_index, q_es0, q_es1, q_o0, q_o1, q_c0, q_c1, q_seq, q_rng, q_enum, q_zip, g_name, g_tup, g_t0, g_t1, o_add, o_sub, o_mul, o_fdiv, o_mod, o_pow, f_d, f_nil, c_lt, c_le, c_gt, c_ge, c_eq, c_ne, at0, at1, at2, ix0, ix1, ix2, v_var, v_int, v_str, v_bl, v_non, v_glob, v_add, v_sub, v_neg, v_idx, v_len, onV_d, onV_scr, onW_d, onW_scr, onW_own, simR, sv, frzT, E.sim?, E.var?, SE.var?, Tv.item, Tv.len, PyData.itemsOf, List.map_cons, List.map_nil, List.replicate, List.cons_append, List.nil_append, List.length_cons, List.length_nil, List.set_cons_zero, List.set_cons_succ, List.getElem?_cons_zero, List.getElem?_cons_succ, Option.join_some, Option.some.injEq, Option.map_some, exists_eq', exists_eq, exists_eq_left', exists_eq_left, exists_and_left, Option.bind_some, Option.bind_eq_bind, Option.pure_def, wipeR, restR, keepD, Tv.d.injEq, Tv.own.injEq, PyData.int.injEq, PyData.bool.injEq, PyData.tuple.injEq, PyData.list.injEq, PyData.str.injEq, List.cons.injEq, and_true, if_tt, if_ff, Option.bind_none, Option.getD_none, Option.getD_some, Int.sub_zero, Int.zero_add, and_assoc, true_and, exists_const, Nat.reduceAdd, Nat.reduceLT, Nat.reduceSub, Nat.zero_add]
      refine ⟨small64 (by omega), a, b, c, fs ++ [sitD t n ea ms], by rw [List.length_append]; exact Nat.succ_le_succ hfl, fun f hf => ?_, hfit.add hne (hms.1.imp fun h => Int.ne_of_lt h) (hap hok), by simp [sitD]⟩
      rcases List.mem_append.mp hf with h | h
      · exact hfs f h
      · rw [List.mem_singleton.mp h]
        exact hsit
    · exact ⟨a, b, c, fs, by omega, hfs, hfit, rfl, rfl⟩
  · rintro ρ2 ⟨a, b, c, fs, hfl, hfs, hfit, rfl⟩
    simp only [List.length_map, List.length_range] at hfl
    simp only [f_own, r_nil, r_cons, r_set, r_unp, r_par, r_ix1, r_ix2, r_ixp, r_ixe, r_app, r_ext, r_expr, r_ret, r_retv, r_retN, r_if, r_for, r_while, r_pass, r_brk, r_cont, q_sim, q_bin, q_neg, q_cmp, q_isN, q_notN, q_chain, q_and, q_or, q_and1, q_and2, q_or1, q_or2, q_not, q_ite, q_tup, q_lst, q_idx, q_slice, q_rev, q_blt1, q_bltv, q_blt2, q_sortset, q_lrng, q_lc, q_pop, q_index, q_es0, q_es1, q_o0, q_o1, q_c0, q_c1, q_seq, q_rng, q_enum, q_zip, g_name, g_tup, g_t0, g_t1, o_add, o_sub, o_mul, o_fdiv, o_mod, o_pow, f_d, f_nil, c_lt, c_le, c_gt, c_ge, c_eq, c_ne, at0, at1, at2, ix0, ix1, ix2, v_var, v_int, v_str, v_bl, v_non, v_glob, v_add, v_sub, v_neg, v_idx, v_len, onV_d, onV_scr, onW_d, onW_scr, onW_own, simR, sv, frzT, E.sim?, E.var?, SE.var?, Tv.item, Tv.len, PyData.itemsOf, List.map_cons, List.map_nil, List.replicate, List.cons_append, List.nil_append, List.length_cons, List.length_nil, List.set_cons_zero, List.set_cons_succ, List.getElem?_cons_zero, List.getElem?_cons_succ, Option.join_some, Option.some.injEq, Option.map_some, exists_eq', exists_eq, exists_eq_left', exists_eq_left, exists_and_left, Option.bind_some, Option.bind_eq_bind, Option.pure_def, wipeR, restR, keepD, Tv.d.injEq, Tv.own.injEq, PyData.int.injEq, PyData.bool.injEq, PyData.tuple.injEq, PyData.list.injEq, PyData.str.injEq, List.cons.injEq, and_true, if_tt, if_ff, Option.bind_none, Option.getD_none, Option.getD_some, Int.sub_zero, Int.zero_add, and_assoc, true_and, exists_const, Nat.reduceAdd, Nat.reduceLT, Nat.reduceSub, Nat.zero_add]
    refine b_sortedD (sits_ok hfs) ?_
    simp only [b_tuple, fz3, r_nil, r_cons, r_set, r_unp, r_par, r_ix1, r_ix2, r_ixp, r_ixe, r_app, r_ext, r_expr, r_ret, r_retv, r_retN, r_if, r_for, r_while, r_pass, r_brk, r_cont, q_sim, q_bin, q_neg, q_cmp, q_isN, q_notN, q_chain, q_and, q_or, q_and1, q_and2, q_or1, q_or2, q_not, q_ite, q_tup, q_lst, q_idx, q_slice, q_rev, q_blt1, q_bltv, q_blt2, q_sortset, q_lrng, q_lc, q_pop, q_index, q_es0, q_es1, q_o0, q_o1, q_c0, q_c1, q_seq, q_rng, q_enum, q_zip, g_name, g_tup, g_t0, g_t1, o_add, o_sub, o_mul, o_fdiv, o_mod, o_pow, f_d, f_nil, c_lt, c_le, c_gt, c_ge, c_eq, c_ne, at0, at1, at2, ix0, ix1, ix2, v_var, v_int, v_str, v_bl, v_non, v_glob, v_add, v_sub, v_neg, v_idx, v_len, onV_d, onV_scr, onW_d, onW_scr, onW_own, simR, sv, frzT, E.sim?, E.var?, SE.var?, Tv.item, Tv.len, PyData.itemsOf, List.map_cons, List.map_nil, List.replicate, List.cons_append, List.nil_append, List.length_cons, List.length_nil, List.set_cons_zero, List.set_cons_succ, List.getElem?_cons_zero, List.getElem?_cons_succ, Option.join_some, Option.some.injEq, Option.map_some, exists_eq', exists_eq, exists_eq_left', exists_eq_left, exists_and_left, Option.bind_some, Option.bind_eq_bind, Option.pure_def, wipeR, restR, keepD, Tv.d.injEq, Tv.own.injEq, PyData.int.injEq, PyData.bool.injEq, PyData.tuple.injEq, PyData.list.injEq, PyData.str.injEq, List.cons.injEq, and_true, if_tt, if_ff, Option.bind_none, Option.getD_none, Option.getD_some, Int.sub_zero, Int.zero_add, and_assoc, true_and, exists_const, Nat.reduceAdd, Nat.reduceLT, Nat.reduceSub, Nat.zero_add]
    exact hq _ _ _ _ _ _ _ (plan_sorted (by omega) (by omega) (by omega) (by omega) (by omega) hfs hfit)
end Tr
set_option Elab.async false
set_option linter.all false
set_option maxRecDepth 100000
set_option maxHeartbeats 4000000
set_option exponentiation.threshold 3000
namespace Tr
open PySem PySem.Spec PyProof.Rows L2
def bPlanV : SL := (.cons (.ret (.tup (.cons (.sim (.idx (.var 3) (.int 0))) (.cons (.sim (.idx (.var 3) (.int 1))) (.cons (.blt1 .tuple (.blt1 .sorted (.sim (.var 4)))) .nil)))))
  .nil)
def bPlanU : SL := (.cons (.ite (.cmp .eq (.call "_law_take" (.cons (.sim (.var 0)) (.cons (.sim (.int 3)) .nil))) (.sim (.int 0)))
  (.cons (.set 4 (.lc (.ite (.cmp .eq (.call "_law_take" (.cons (.sim (.var 0)) (.cons (.sim (.int 3)) .nil))) (.sim (.int 0))) (.tup (.cons (.sim (.idx (.var 6) (.int 0))) (.cons (.sim (.idx (.var 6) (.int 2))) (.cons (.sim (.idx (.var 6) (.int 1))) (.cons (.sim (.idx (.var 6) (.int 3))) .nil))))) (.sim (.var 6))) (.name 6) (.seq (.sim (.var 4))) .non [6]))
  .nil)
  .nil)
  bPlanV)
def bPlanT : SL := (.cons (.set 4 (.blt1 .list (.sim (.idx (.var 3) (.int 2)))))
  (.cons (.ite (.and_ (.cons (.cmp .ne (.sim (.var 4)) (.lst .nil)) (.cons (.cmp .eq (.call "_law_take" (.cons (.sim (.var 0)) (.cons (.sim (.int 4)) .nil))) (.sim (.int 0))) .nil)))
  (.cons (.expr (.pop 4 (.call "_law_take" (.cons (.sim (.var 0)) (.cons (.sim (.len (.var 4))) .nil)))))
  .nil)
  .nil)
  bPlanU))
def bPlanM : SL := (.cons (.ite (.and_ (.cons (.cmp .eq (.sim (.var 2)) (.sim (.int 2))) (.cons (.cmp .gt (.sim (.var 1)) (.sim (.int 3))) .nil)))
  (.cons (.set 5 (.bin .add (.sim (.int 2)) (.call "_law_take" (.cons (.sim (.var 0)) (.cons (.bin .sub (.bin .fdiv (.sim (.var 1)) (.sim (.int 2))) (.sim (.int 1))) .nil)))))
  (.cons (.set 3 (.call "_law_moving" (.cons (.sim (.var 5)) (.cons (.bin .add (.sim (.int 1)) (.call "_law_take" (.cons (.sim (.var 0)) (.cons (.sim (.var 5)) .nil)))) .nil))))
  .nil))
  .nil)
  bPlanT)
def bPlan3 : SL := (.cons (.set 2 (.call "_law_take" (.cons (.sim (.var 0)) (.cons (.sim (.int 4)) .nil))))
  (.cons (.set 3 (.call "_law_drawn_plan" (.cons (.sim (.var 0)) (.cons (.sim (.var 1)) .nil))))
  (.cons (.ite (.and_ (.cons (.cmp .eq (.sim (.var 2)) (.sim (.int 1))) (.cons (.cmp .gt (.sim (.var 1)) (.sim (.int 3))) .nil)))
  (.cons (.set 3 (.call "_law_ring" (.cons (.bin .add (.sim (.int 2)) (.call "_law_take" (.cons (.sim (.var 0)) (.cons (.bin .sub (.bin .fdiv (.sim (.var 1)) (.sim (.int 2))) (.sim (.int 1))) .nil)))) (.cons (.call "_law_take" (.cons (.sim (.var 0)) (.cons (.sim (.int 16)) .nil))) .nil))))
  .nil)
  .nil)
  bPlanM)))
def feDeck3 : FE := ⟨["_law_script"], [], none, spDeck3⟩
def fePick3 : FE := ⟨["_law_deck_here", "_law_some"], [], some 0, spPick3⟩
def spLaw : FS := fun xs Q => ∃ ns, xs = [.scr ns] ∧ ∀ rest, Q (.d (.bool true)) rest
def feDrawn3 : FE := ⟨["_law_deck_here", "_law_most"], [], some 0, spDrawn3⟩
def feRing3 : FE := ⟨["_law_size", "_law_shift"], [], none, spRing3⟩
def feMoving3 : FE := ⟨["_law_size", "_law_many"], [], none, spMoving3⟩
def spPlan3 : FS := spDrawn3
theorem erase_map {α β : Type} (f : α → β) : ∀ (l : List α) (i : Nat), (l.map f).eraseIdx i = (l.eraseIdx i).map f
  | [], _ => by simp
  | x :: l, 0 => rfl
  | x :: l, i + 1 => by
    show f x :: (l.map f).eraseIdx i = f x :: (l.eraseIdx i).map f
    rw [erase_map f l i]
theorem args22 {x y : PyData} : argTs [.d x, .d y] = some [.d x, .d y] := rfl
theorem sit_swap {pr pk t n e : Int} {ps : List Int} (h : Sit pr pk (sitD t n e ps)) : Sit pr pk (sitD t e n ps) := by
  obtain ⟨t', n', e', ps', eq, a1, a2, a3, a4, a5, a6, a7, a8⟩ := h
  simp only [sitD, PyData.tuple.injEq, List.cons.injEq, PyData.int.injEq, and_true] at eq
  obtain ⟨rfl, rfl, rfl, eq⟩ := eq
  refine ⟨t, e, n, ps', ?_, a1, a2, a5, a6, a3, a4, a7, a8⟩
  unfold sitD
  rw [eq]
theorem ok_plan3 {Γ : Gam} {Φ : Phi} (hT : Φ "_law_take" = some feTake3) (hD : Φ "_law_drawn_plan" = some feDrawn3) (hR : Φ "_law_ring" = some feRing3) (hM : Φ "_law_moving" = some feMoving3) : ∀ xs Q, spPlan3 xs Q → fsOf Γ Φ 2 7 bPlan3 xs Q := by
  rintro xs Q ⟨a, b, c, m, rfl, h1, h2, hq⟩
  refine ⟨rfl, ?_⟩
  rw [bPlan3, r_cons]
  simp only [q_callO hT rfl, args1, feTake3, r_nil, r_set, r_unp, r_par, r_ix1, r_ix2, r_ixp, r_ixe, r_app, r_ext, r_expr, r_ret, r_retv, r_retN, r_if, r_for, r_while, r_pass, r_brk, r_cont, q_sim, q_bin, q_neg, q_cmp, q_isN, q_notN, q_chain, q_and, q_or, q_and1, q_and2, q_or1, q_or2, q_not, q_ite, q_tup, q_lst, q_idx, q_slice, q_rev, q_blt1, q_bltv, q_blt2, q_sortset, q_lrng, q_lc, q_pop, q_index, q_es0, q_es1, q_o0, q_o1, q_c0, q_c1, q_seq, q_rng, q_enum, q_zip, g_name, g_tup, g_t0, g_t1, o_add, o_sub, o_mul, o_fdiv, o_mod, o_pow, f_d, f_nil, c_lt, c_le, c_gt, c_ge, c_eq, c_ne, at0, at1, at2, ix0, ix1, ix2, v_var, v_int, v_str, v_bl, v_non, v_glob, v_add, v_sub, v_neg, v_idx, v_len, onV_d, onV_scr, onW_d, onW_scr, onW_own, simR, sv, frzT, E.sim?, E.var?, SE.var?, Tv.item, Tv.len, PyData.itemsOf, List.map_cons, List.map_nil, List.replicate, List.cons_append, List.nil_append, List.length_cons, List.length_nil, List.set_cons_zero, List.set_cons_succ, List.getElem?_cons_zero, List.getElem?_cons_succ, Option.join_some, Option.some.injEq, Option.map_some, exists_eq', exists_eq, exists_eq_left', exists_eq_left, exists_and_left, Option.bind_some, Option.bind_eq_bind, Option.pure_def, wipeR, restR, keepD, Tv.d.injEq, Tv.own.injEq, PyData.int.injEq, PyData.bool.injEq, PyData.tuple.injEq, PyData.list.injEq, PyData.str.injEq, List.cons.injEq, and_true, if_tt, if_ff, Option.bind_none, Option.getD_none, Option.getD_some, Int.sub_zero, Int.zero_add, and_assoc, true_and, exists_const, Nat.reduceAdd, Nat.reduceLT, Nat.reduceSub, Nat.zero_add]
  refine ⟨_, rfl, a, b, c, _, rfl, by omega, lt_big (by omega), fun so a b c rest so0 so1 => ?_⟩
  simp only [r_nil, r_set, r_unp, r_par, r_ix1, r_ix2, r_ixp, r_ixe, r_app, r_ext, r_expr, r_ret, r_retv, r_retN, r_if, r_for, r_while, r_pass, r_brk, r_cont, q_sim, q_bin, q_neg, q_cmp, q_isN, q_notN, q_chain, q_and, q_or, q_and1, q_and2, q_or1, q_or2, q_not, q_ite, q_tup, q_lst, q_idx, q_slice, q_rev, q_blt1, q_bltv, q_blt2, q_sortset, q_lrng, q_lc, q_pop, q_index, q_es0, q_es1, q_o0, q_o1, q_c0, q_c1, q_seq, q_rng, q_enum, q_zip, g_name, g_tup, g_t0, g_t1, o_add, o_sub, o_mul, o_fdiv, o_mod, o_pow, f_d, f_nil, c_lt, c_le, c_gt, c_ge, c_eq, c_ne, at0, at1, at2, ix0, ix1, ix2, v_var, v_int, v_str, v_bl, v_non, v_glob, v_add, v_sub, v_neg, v_idx, v_len, onV_d, onV_scr, onW_d, onW_scr, onW_own, simR, sv, frzT, E.sim?, E.var?, SE.var?, Tv.item, Tv.len, PyData.itemsOf, List.map_cons, List.map_nil, List.replicate, List.cons_append, List.nil_append, List.length_cons, List.length_nil, List.set_cons_zero, List.set_cons_succ, List.getElem?_cons_zero, List.getElem?_cons_succ, Option.join_some, Option.some.injEq, Option.map_some, exists_eq', exists_eq, exists_eq_left', exists_eq_left, exists_and_left, Option.bind_some, Option.bind_eq_bind, Option.pure_def, wipeR, restR, keepD, Tv.d.injEq, Tv.own.injEq, PyData.int.injEq, PyData.bool.injEq, PyData.tuple.injEq, PyData.list.injEq, PyData.str.injEq, List.cons.injEq, and_true, if_tt, if_ff, Option.bind_none, Option.getD_none, Option.getD_some, Int.sub_zero, Int.zero_add, and_assoc, true_and, exists_const, Nat.reduceAdd, Nat.reduceLT, Nat.reduceSub, Nat.zero_add]
  rw [r_cons]
  simp only [q_callO hD rfl, args1, feDrawn3, r_nil, r_set, r_unp, r_par, r_ix1, r_ix2, r_ixp, r_ixe, r_app, r_ext, r_expr, r_ret, r_retv, r_retN, r_if, r_for, r_while, r_pass, r_brk, r_cont, q_sim, q_bin, q_neg, q_cmp, q_isN, q_notN, q_chain, q_and, q_or, q_and1, q_and2, q_or1, q_or2, q_not, q_ite, q_tup, q_lst, q_idx, q_slice, q_rev, q_blt1, q_bltv, q_blt2, q_sortset, q_lrng, q_lc, q_pop, q_index, q_es0, q_es1, q_o0, q_o1, q_c0, q_c1, q_seq, q_rng, q_enum, q_zip, g_name, g_tup, g_t0, g_t1, o_add, o_sub, o_mul, o_fdiv, o_mod, o_pow, f_d, f_nil, c_lt, c_le, c_gt, c_ge, c_eq, c_ne, at0, at1, at2, ix0, ix1, ix2, v_var, v_int, v_str, v_bl, v_non, v_glob, v_add, v_sub, v_neg, v_idx, v_len, onV_d, onV_scr, onW_d, onW_scr, onW_own, simR, sv, frzT, E.sim?, E.var?, SE.var?, Tv.item, Tv.len, PyData.itemsOf, List.map_cons, List.map_nil, List.replicate, List.cons_append, List.nil_append, List.length_cons, List.length_nil, List.set_cons_zero, List.set_cons_succ, List.getElem?_cons_zero, List.getElem?_cons_succ, Option.join_some, Option.some.injEq, Option.map_some, exists_eq', exists_eq, exists_eq_left', exists_eq_left, exists_and_left, Option.bind_some, Option.bind_eq_bind, Option.pure_def, wipeR, restR, keepD, Tv.d.injEq, Tv.own.injEq, PyData.int.injEq, PyData.bool.injEq, PyData.tuple.injEq, PyData.list.injEq, PyData.str.injEq, List.cons.injEq, and_true, if_tt, if_ff, Option.bind_none, Option.getD_none, Option.getD_some, Int.sub_zero, Int.zero_add, and_assoc, true_and, exists_const, Nat.reduceAdd, Nat.reduceLT, Nat.reduceSub, Nat.zero_add]
  refine ⟨_, rfl, a, b, c, _, rfl, h1, h2, fun pr pk ss a b c rest hP => ?_⟩
  simp only [r_nil, r_set, r_unp, r_par, r_ix1, r_ix2, r_ixp, r_ixe, r_app, r_ext, r_expr, r_ret, r_retv, r_retN, r_if, r_for, r_while, r_pass, r_brk, r_cont, q_sim, q_bin, q_neg, q_cmp, q_isN, q_notN, q_chain, q_and, q_or, q_and1, q_and2, q_or1, q_or2, q_not, q_ite, q_tup, q_lst, q_idx, q_slice, q_rev, q_blt1, q_bltv, q_blt2, q_sortset, q_lrng, q_lc, q_pop, q_index, q_es0, q_es1, q_o0, q_o1, q_c0, q_c1, q_seq, q_rng, q_enum, q_zip, g_name, g_tup, g_t0, g_t1, o_add, o_sub, o_mul, o_fdiv, o_mod, o_pow, f_d, f_nil, c_lt, c_le, c_gt, c_ge, c_eq, c_ne, at0, at1, at2, ix0, ix1, ix2, v_var, v_int, v_str, v_bl, v_non, v_glob, v_add, v_sub, v_neg, v_idx, v_len, onV_d, onV_scr, onW_d, onW_scr, onW_own, simR, sv, frzT, E.sim?, E.var?, SE.var?, Tv.item, Tv.len, PyData.itemsOf, List.map_cons, List.map_nil, List.replicate, List.cons_append, List.nil_append, List.length_cons, List.length_nil, List.set_cons_zero, List.set_cons_succ, List.getElem?_cons_zero, List.getElem?_cons_succ, Option.join_some, Option.some.injEq, Option.map_some, exists_eq', exists_eq, exists_eq_left', exists_eq_left, exists_and_left, Option.bind_some, Option.bind_eq_bind, Option.pure_def, wipeR, restR, keepD, Tv.d.injEq, Tv.own.injEq, PyData.int.injEq, PyData.bool.injEq, PyData.tuple.injEq, PyData.list.injEq, PyData.str.injEq, List.cons.injEq, and_true, if_tt, if_ff, Option.bind_none, Option.getD_none, Option.getD_some, Int.sub_zero, Int.zero_add, and_assoc, true_and, exists_const, Nat.reduceAdd, Nat.reduceLT, Nat.reduceSub, Nat.zero_add]
  have hp0 := hP
  have CE : ∀ R : Prop, (R → R) := fun _ h => h
  -- what follows, from any plan
  have tailV : ∀ (pr pk : Int) (ss fs : List PyData) (a b c : Int) (x o : Tv) (oo : Option Tv), PlanOk pr pk ss → fs.length ≤ 60 → (∀ f ∈ fs, Sit pr pk f) → Fit fs → (x = .own (fs.map .d)) → wSL Γ Φ bPlanV
      { nx := fun ρ => Q (.d .none) ρ, rt := fun x ρ => Q x ρ } [some (deck a b c), some (.d (.int m)), some (.d (.int so)), some (.d (planD pr pk ss)), some x, oo, none] := by
    intro pr pk ss fs a b c x o oo hP hl hf hft hx
    subst hx
    rw [bPlanV, r_cons]
    simp only [planD, f_own, at2, r_nil, r_cons, r_set, r_unp, r_par, r_ix1, r_ix2, r_ixp, r_ixe, r_app, r_ext, r_expr, r_ret, r_retv, r_retN, r_if, r_for, r_while, r_pass, r_brk, r_cont, q_sim, q_bin, q_neg, q_cmp, q_isN, q_notN, q_chain, q_and, q_or, q_and1, q_and2, q_or1, q_or2, q_not, q_ite, q_tup, q_lst, q_idx, q_slice, q_rev, q_blt1, q_bltv, q_blt2, q_sortset, q_lrng, q_lc, q_pop, q_index, q_es0, q_es1, q_o0, q_o1, q_c0, q_c1, q_seq, q_rng, q_enum, q_zip, g_name, g_tup, g_t0, g_t1, o_add, o_sub, o_mul, o_fdiv, o_mod, o_pow, f_d, f_nil, c_lt, c_le, c_gt, c_ge, c_eq, c_ne, at0, at1, at2, ix0, ix1, ix2, v_var, v_int, v_str, v_bl, v_non, v_glob, v_add, v_sub, v_neg, v_idx, v_len, onV_d, onV_scr, onW_d, onW_scr, onW_own, simR, sv, frzT, E.sim?, E.var?, SE.var?, Tv.item, Tv.len, PyData.itemsOf, List.map_cons, List.map_nil, List.replicate, List.cons_append, List.nil_append, List.length_cons, List.length_nil, List.set_cons_zero, List.set_cons_succ, List.getElem?_cons_zero, List.getElem?_cons_succ, Option.join_some, Option.some.injEq, Option.map_some, exists_eq', exists_eq, exists_eq_left', exists_eq_left, exists_and_left, Option.bind_some, Option.bind_eq_bind, Option.pure_def, wipeR, restR, keepD, Tv.d.injEq, Tv.own.injEq, PyData.int.injEq, PyData.bool.injEq, PyData.tuple.injEq, PyData.list.injEq, PyData.str.injEq, List.cons.injEq, and_true, if_tt, if_ff, Option.bind_none, Option.getD_none, Option.getD_some, Int.sub_zero, Int.zero_add, and_assoc, true_and, exists_const, Nat.reduceAdd, Nat.reduceLT, Nat.reduceSub, Nat.zero_add]
    refine b_sortedD (sits_ok hf) ?_
    simp only [b_tuple, fz3, r_nil, r_cons, r_set, r_unp, r_par, r_ix1, r_ix2, r_ixp, r_ixe, r_app, r_ext, r_expr, r_ret, r_retv, r_retN, r_if, r_for, r_while, r_pass, r_brk, r_cont, q_sim, q_bin, q_neg, q_cmp, q_isN, q_notN, q_chain, q_and, q_or, q_and1, q_and2, q_or1, q_or2, q_not, q_ite, q_tup, q_lst, q_idx, q_slice, q_rev, q_blt1, q_bltv, q_blt2, q_sortset, q_lrng, q_lc, q_pop, q_index, q_es0, q_es1, q_o0, q_o1, q_c0, q_c1, q_seq, q_rng, q_enum, q_zip, g_name, g_tup, g_t0, g_t1, o_add, o_sub, o_mul, o_fdiv, o_mod, o_pow, f_d, f_nil, c_lt, c_le, c_gt, c_ge, c_eq, c_ne, at0, at1, at2, ix0, ix1, ix2, v_var, v_int, v_str, v_bl, v_non, v_glob, v_add, v_sub, v_neg, v_idx, v_len, onV_d, onV_scr, onW_d, onW_scr, onW_own, simR, sv, frzT, E.sim?, E.var?, SE.var?, Tv.item, Tv.len, PyData.itemsOf, List.map_cons, List.map_nil, List.replicate, List.cons_append, List.nil_append, List.length_cons, List.length_nil, List.set_cons_zero, List.set_cons_succ, List.getElem?_cons_zero, List.getElem?_cons_succ, Option.join_some, Option.some.injEq, Option.map_some, exists_eq', exists_eq, exists_eq_left', exists_eq_left, exists_and_left, Option.bind_some, Option.bind_eq_bind, Option.pure_def, wipeR, restR, keepD, Tv.d.injEq, Tv.own.injEq, PyData.int.injEq, PyData.bool.injEq, PyData.tuple.injEq, PyData.list.injEq, PyData.str.injEq, List.cons.injEq, and_true, if_tt, if_ff, Option.bind_none, Option.getD_none, Option.getD_some, Int.sub_zero, Int.zero_add, and_assoc, true_and, exists_const, Nat.reduceAdd, Nat.reduceLT, Nat.reduceSub, Nat.zero_add]
    exact hq _ _ _ _ _ _ _ (plan_sorted hP.p1 hP.p2 hP.k1 hP.k2 hl hf hft)
  have tailU : ∀ (pr pk : Int) (ss fs : List PyData) (a b c : Int) (oo : Option Tv), PlanOk pr pk ss → fs.length ≤ 60 → (∀ f ∈ fs, Sit pr pk f) → Fit fs → wSL Γ Φ bPlanU
      { nx := fun ρ => Q (.d .none) ρ, rt := fun x ρ => Q x ρ } [some (deck a b c), some (.d (.int m)), some (.d (.int so)), some (.d (planD pr pk ss)), some (.own (fs.map .d)), oo, none] := by
    intro pr pk ss fs a b c oo hP hl hf hft
    rw [bPlanU, r_cons]
    simp only [q_callO hT rfl, args1, feTake3, r_nil, r_set, r_unp, r_par, r_ix1, r_ix2, r_ixp, r_ixe, r_app, r_ext, r_expr, r_ret, r_retv, r_retN, r_if, r_for, r_while, r_pass, r_brk, r_cont, q_sim, q_bin, q_neg, q_cmp, q_isN, q_notN, q_chain, q_and, q_or, q_and1, q_and2, q_or1, q_or2, q_not, q_ite, q_tup, q_lst, q_idx, q_slice, q_rev, q_blt1, q_bltv, q_blt2, q_sortset, q_lrng, q_lc, q_pop, q_index, q_es0, q_es1, q_o0, q_o1, q_c0, q_c1, q_seq, q_rng, q_enum, q_zip, g_name, g_tup, g_t0, g_t1, o_add, o_sub, o_mul, o_fdiv, o_mod, o_pow, f_d, f_nil, c_lt, c_le, c_gt, c_ge, c_eq, c_ne, at0, at1, at2, ix0, ix1, ix2, v_var, v_int, v_str, v_bl, v_non, v_glob, v_add, v_sub, v_neg, v_idx, v_len, onV_d, onV_scr, onW_d, onW_scr, onW_own, simR, sv, frzT, E.sim?, E.var?, SE.var?, Tv.item, Tv.len, PyData.itemsOf, List.map_cons, List.map_nil, List.replicate, List.cons_append, List.nil_append, List.length_cons, List.length_nil, List.set_cons_zero, List.set_cons_succ, List.getElem?_cons_zero, List.getElem?_cons_succ, Option.join_some, Option.some.injEq, Option.map_some, exists_eq', exists_eq, exists_eq_left', exists_eq_left, exists_and_left, Option.bind_some, Option.bind_eq_bind, Option.pure_def, wipeR, restR, keepD, Tv.d.injEq, Tv.own.injEq, PyData.int.injEq, PyData.bool.injEq, PyData.tuple.injEq, PyData.list.injEq, PyData.str.injEq, List.cons.injEq, and_true, if_tt, if_ff, Option.bind_none, Option.getD_none, Option.getD_some, Int.sub_zero, Int.zero_add, and_assoc, true_and, exists_const, Nat.reduceAdd, Nat.reduceLT, Nat.reduceSub, Nat.zero_add]
    refine ⟨_, rfl, a, b, c, _, rfl, by decide, lt_big (by decide), fun z a b c rest z0 z1 => ?_⟩
    simp only [r_nil, r_set, r_unp, r_par, r_ix1, r_ix2, r_ixp, r_ixe, r_app, r_ext, r_expr, r_ret, r_retv, r_retN, r_if, r_for, r_while, r_pass, r_brk, r_cont, q_sim, q_bin, q_neg, q_cmp, q_isN, q_notN, q_chain, q_and, q_or, q_and1, q_and2, q_or1, q_or2, q_not, q_ite, q_tup, q_lst, q_idx, q_slice, q_rev, q_blt1, q_bltv, q_blt2, q_sortset, q_lrng, q_lc, q_pop, q_index, q_es0, q_es1, q_o0, q_o1, q_c0, q_c1, q_seq, q_rng, q_enum, q_zip, g_name, g_tup, g_t0, g_t1, o_add, o_sub, o_mul, o_fdiv, o_mod, o_pow, f_d, f_nil, c_lt, c_le, c_gt, c_ge, c_eq, c_ne, at0, at1, at2, ix0, ix1, ix2, v_var, v_int, v_str, v_bl, v_non, v_glob, v_add, v_sub, v_neg, v_idx, v_len, onV_d, onV_scr, onW_d, onW_scr, onW_own, simR, sv, frzT, E.sim?, E.var?, SE.var?, Tv.item, Tv.len, PyData.itemsOf, List.map_cons, List.map_nil, List.replicate, List.cons_append, List.nil_append, List.length_cons, List.length_nil, List.set_cons_zero, List.set_cons_succ, List.getElem?_cons_zero, List.getElem?_cons_succ, Option.join_some, Option.some.injEq, Option.map_some, exists_eq', exists_eq, exists_eq_left', exists_eq_left, exists_and_left, Option.bind_some, Option.bind_eq_bind, Option.pure_def, wipeR, restR, keepD, Tv.d.injEq, Tv.own.injEq, PyData.int.injEq, PyData.bool.injEq, PyData.tuple.injEq, PyData.list.injEq, PyData.str.injEq, List.cons.injEq, and_true, if_tt, if_ff, Option.bind_none, Option.getD_none, Option.getD_some, Int.sub_zero, Int.zero_add, and_assoc, true_and, exists_const, Nat.reduceAdd, Nat.reduceLT, Nat.reduceSub, Nat.zero_add]
    refine if_l (fun _ => ?_) fun _ => tailV _ _ _ fs _ _ _ _ (.d .none) _ hP hl hf hft rfl
    rw [r_cons]
    simp only [f_own, r_nil, r_set, r_unp, r_par, r_ix1, r_ix2, r_ixp, r_ixe, r_app, r_ext, r_expr, r_ret, r_retv, r_retN, r_if, r_for, r_while, r_pass, r_brk, r_cont, q_sim, q_bin, q_neg, q_cmp, q_isN, q_notN, q_chain, q_and, q_or, q_and1, q_and2, q_or1, q_or2, q_not, q_ite, q_tup, q_lst, q_idx, q_slice, q_rev, q_blt1, q_bltv, q_blt2, q_sortset, q_lrng, q_lc, q_pop, q_index, q_es0, q_es1, q_o0, q_o1, q_c0, q_c1, q_seq, q_rng, q_enum, q_zip, g_name, g_tup, g_t0, g_t1, o_add, o_sub, o_mul, o_fdiv, o_mod, o_pow, f_d, f_nil, c_lt, c_le, c_gt, c_ge, c_eq, c_ne, at0, at1, at2, ix0, ix1, ix2, v_var, v_int, v_str, v_bl, v_non, v_glob, v_add, v_sub, v_neg, v_idx, v_len, onV_d, onV_scr, onW_d, onW_scr, onW_own, simR, sv, frzT, E.sim?, E.var?, SE.var?, Tv.item, Tv.len, PyData.itemsOf, List.map_cons, List.map_nil, List.replicate, List.cons_append, List.nil_append, List.length_cons, List.length_nil, List.set_cons_zero, List.set_cons_succ, List.getElem?_cons_zero, List.getElem?_cons_succ, Option.join_some, Option.some.injEq, Option.map_some, exists_eq', exists_eq, exists_eq_left', exists_eq_left, exists_and_left, Option.bind_some, Option.bind_eq_bind, Option.pure_def, wipeR, restR, keepD, Tv.d.injEq, Tv.own.injEq, PyData.int.injEq, PyData.bool.injEq, PyData.tuple.injEq, PyData.list.injEq, PyData.str.injEq, List.cons.injEq, and_true, if_tt, if_ff, Option.bind_none, Option.getD_none, Option.getD_some, Int.sub_zero, Int.zero_add, and_assoc, true_and, exists_const, Nat.reduceAdd, Nat.reduceLT, Nat.reduceSub, Nat.zero_add]
    refine ⟨fun j acc ρ => ∃ a b c : Int, ∃ gs : List PyData, acc = gs.map .d ∧ gs.map norm = (fs.take j).map norm ∧ gs.length = j ∧ (∀ f ∈ gs, Sit pr pk f) ∧ ρ = [some (deck a b c), some (.d (.int m)), some (.d (.int so)), some (.d (planD pr pk ss)), some (.d (.list fs)), oo, none], ⟨a, b, c, [], rfl, rfl, rfl, fun _ z => (nomatch z), rfl⟩, ?_, ?_⟩
    · rintro j y acc ρ2 hy ⟨a, b, c, gs, rfl, hgn, hgl, hgs, rfl⟩
      have hj := (List.getElem?_eq_some_iff.mp hy).1
      have hsit := hf y (List.mem_of_getElem? hy)
      obtain ⟨t, n, e, ps, rfl, hrest⟩ := hsit
      have hsit : Sit pr pk (sitD t n e ps) := ⟨t, n, e, ps, rfl, hrest⟩
      have hy' : fs[j]? = some (sitD t n e ps) := hy
      simp only [q_callO hT rfl, args1, feTake3, r_nil, r_cons, r_set, r_unp, r_par, r_ix1, r_ix2, r_ixp, r_ixe, r_app, r_ext, r_expr, r_ret, r_retv, r_retN, r_if, r_for, r_while, r_pass, r_brk, r_cont, q_sim, q_bin, q_neg, q_cmp, q_isN, q_notN, q_chain, q_and, q_or, q_and1, q_and2, q_or1, q_or2, q_not, q_ite, q_tup, q_lst, q_idx, q_slice, q_rev, q_blt1, q_bltv, q_blt2, q_sortset, q_lrng, q_lc, q_pop, q_index, q_es0, q_es1, q_o0, q_o1, q_c0, q_c1, q_seq, q_rng, q_enum, q_zip, g_name, g_tup, g_t0, g_t1, o_add, o_sub, o_mul, o_fdiv, o_mod, o_pow, f_d, f_nil, c_lt, c_le, c_gt, c_ge, c_eq, c_ne, at0, at1, at2, ix0, ix1, ix2, v_var, v_int, v_str, v_bl, v_non, v_glob, v_add, v_sub, v_neg, v_idx, v_len, onV_d, onV_scr, onW_d, onW_scr, onW_own, simR, sv, frzT, E.sim?, E.var?, SE.var?, Tv.item, Tv.len, PyData.itemsOf, List.map_cons, List.map_nil, List.replicate, List.cons_append, List.nil_append, List.length_cons, List.length_nil, List.set_cons_zero, List.set_cons_succ, List.getElem?_cons_zero, List.getElem?_cons_succ, Option.join_some, Option.some.injEq, Option.map_some, exists_eq', exists_eq, exists_eq_left', exists_eq_left, exists_and_left, Option.bind_some, Option.bind_eq_bind, Option.pure_def, wipeR, restR, keepD, Tv.d.injEq, Tv.own.injEq, PyData.int.injEq, PyData.bool.injEq, PyData.tuple.injEq, PyData.list.injEq, PyData.str.injEq, List.cons.injEq, and_true, if_tt, if_ff, Option.bind_none, Option.getD_none, Option.getD_some, Int.sub_zero, Int.zero_add, and_assoc, true_and, exists_const, Nat.reduceAdd, Nat.reduceLT, Nat.reduceSub, Nat.zero_add]
      refine ⟨fun _ => ⟨_, rfl, a, b, c, _, rfl, by decide, lt_big (by decide), fun w a b c rest w0 w1 => ?_⟩, fun z => (nomatch z)⟩
      simp only [sitD, at3, at2, fz4, List.length_map, r_nil, r_cons, r_set, r_unp, r_par, r_ix1, r_ix2, r_ixp, r_ixe, r_app, r_ext, r_expr, r_ret, r_retv, r_retN, r_if, r_for, r_while, r_pass, r_brk, r_cont, q_sim, q_bin, q_neg, q_cmp, q_isN, q_notN, q_chain, q_and, q_or, q_and1, q_and2, q_or1, q_or2, q_not, q_ite, q_tup, q_lst, q_idx, q_slice, q_rev, q_blt1, q_bltv, q_blt2, q_sortset, q_lrng, q_lc, q_pop, q_index, q_es0, q_es1, q_o0, q_o1, q_c0, q_c1, q_seq, q_rng, q_enum, q_zip, g_name, g_tup, g_t0, g_t1, o_add, o_sub, o_mul, o_fdiv, o_mod, o_pow, f_d, f_nil, c_lt, c_le, c_gt, c_ge, c_eq, c_ne, at0, at1, at2, ix0, ix1, ix2, v_var, v_int, v_str, v_bl, v_non, v_glob, v_add, v_sub, v_neg, v_idx, v_len, onV_d, onV_scr, onW_d, onW_scr, onW_own, simR, sv, frzT, E.sim?, E.var?, SE.var?, Tv.item, Tv.len, PyData.itemsOf, List.map_cons, List.map_nil, List.replicate, List.cons_append, List.nil_append, List.length_cons, List.length_nil, List.set_cons_zero, List.set_cons_succ, List.getElem?_cons_zero, List.getElem?_cons_succ, Option.join_some, Option.some.injEq, Option.map_some, exists_eq', exists_eq, exists_eq_left', exists_eq_left, exists_and_left, Option.bind_some, Option.bind_eq_bind, Option.pure_def, wipeR, restR, keepD, Tv.d.injEq, Tv.own.injEq, PyData.int.injEq, PyData.bool.injEq, PyData.tuple.injEq, PyData.list.injEq, PyData.str.injEq, List.cons.injEq, and_true, if_tt, if_ff, Option.bind_none, Option.getD_none, Option.getD_some, Int.sub_zero, Int.zero_add, and_assoc, true_and, exists_const, Nat.reduceAdd, Nat.reduceLT, Nat.reduceSub, Nat.zero_add]
      refine if_l (fun _ => ⟨small64 (by omega), a, b, c, gs ++ [sitD t e n ps], by simp [sitD], by rw [take_snoc hy', List.map_append, List.map_append, hgn, List.map_cons, norm_swap, List.map_cons, List.map_nil], by simp [hgl], fun f hf => ?_, rfl⟩) fun _ => ⟨small64 (by omega), a, b, c, gs ++ [sitD t n e ps], by simp [sitD], by rw [take_snoc hy', List.map_append, List.map_append, hgn], by simp [hgl], fun f hf => ?_, rfl⟩
      · rcases List.mem_append.mp hf with h | h
        · exact hgs f h
        · rw [List.mem_singleton.mp h]
          exact sit_swap hsit
      · rcases List.mem_append.mp hf with h | h
        · exact hgs f h
        · rw [List.mem_singleton.mp h]
          exact hsit
    · rintro acc ρ2 ⟨a, b, c, gs, rfl, hgn, hgl, hgs, rfl⟩
      simp only [r_nil, r_set, r_unp, r_par, r_ix1, r_ix2, r_ixp, r_ixe, r_app, r_ext, r_expr, r_ret, r_retv, r_retN, r_if, r_for, r_while, r_pass, r_brk, r_cont, q_sim, q_bin, q_neg, q_cmp, q_isN, q_notN, q_chain, q_and, q_or, q_and1, q_and2, q_or1, q_or2, q_not, q_ite, q_tup, q_lst, q_idx, q_slice, q_rev, q_blt1, q_bltv, q_blt2, q_sortset, q_lrng, q_lc, q_pop, q_index, q_es0, q_es1, q_o0, q_o1, q_c0, q_c1, q_seq, q_rng, q_enum, q_zip, g_name, g_tup, g_t0, g_t1, o_add, o_sub, o_mul, o_fdiv, o_mod, o_pow, f_d, f_nil, c_lt, c_le, c_gt, c_ge, c_eq, c_ne, at0, at1, at2, ix0, ix1, ix2, v_var, v_int, v_str, v_bl, v_non, v_glob, v_add, v_sub, v_neg, v_idx, v_len, onV_d, onV_scr, onW_d, onW_scr, onW_own, simR, sv, frzT, E.sim?, E.var?, SE.var?, Tv.item, Tv.len, PyData.itemsOf, List.map_cons, List.map_nil, List.replicate, List.cons_append, List.nil_append, List.length_cons, List.length_nil, List.set_cons_zero, List.set_cons_succ, List.getElem?_cons_zero, List.getElem?_cons_succ, Option.join_some, Option.some.injEq, Option.map_some, exists_eq', exists_eq, exists_eq_left', exists_eq_left, exists_and_left, Option.bind_some, Option.bind_eq_bind, Option.pure_def, wipeR, restR, keepD, Tv.d.injEq, Tv.own.injEq, PyData.int.injEq, PyData.bool.injEq, PyData.tuple.injEq, PyData.list.injEq, PyData.str.injEq, List.cons.injEq, and_true, if_tt, if_ff, Option.bind_none, Option.getD_none, Option.getD_some, Int.sub_zero, Int.zero_add, and_assoc, true_and, exists_const, Nat.reduceAdd, Nat.reduceLT, Nat.reduceSub, Nat.zero_add]
      exact tailV _ _ _ gs _ _ _ _ (.d .none) _ hP (by omega) hgs (hft.norms (by rw [hgn, List.take_length])) rfl
  have tail : ∀ (pr pk : Int) (ss : List PyData) (a b c : Int) (o : Option Tv), PlanOk pr pk ss → wSL Γ Φ bPlanT
      { nx := fun ρ => Q (.d .none) ρ, rt := fun x ρ => Q x ρ } [some (deck a b c), some (.d (.int m)), some (.d (.int so)), some (.d (planD pr pk ss)), none, o, none] := by
    intro pr pk ss a b c o hP
    rw [bPlanT, r_cons]
    simp only [planD, at2, b_listT, r_nil, r_set, r_unp, r_par, r_ix1, r_ix2, r_ixp, r_ixe, r_app, r_ext, r_expr, r_ret, r_retv, r_retN, r_if, r_for, r_while, r_pass, r_brk, r_cont, q_sim, q_bin, q_neg, q_cmp, q_isN, q_notN, q_chain, q_and, q_or, q_and1, q_and2, q_or1, q_or2, q_not, q_ite, q_tup, q_lst, q_idx, q_slice, q_rev, q_blt1, q_bltv, q_blt2, q_sortset, q_lrng, q_lc, q_pop, q_index, q_es0, q_es1, q_o0, q_o1, q_c0, q_c1, q_seq, q_rng, q_enum, q_zip, g_name, g_tup, g_t0, g_t1, o_add, o_sub, o_mul, o_fdiv, o_mod, o_pow, f_d, f_nil, c_lt, c_le, c_gt, c_ge, c_eq, c_ne, at0, at1, at2, ix0, ix1, ix2, v_var, v_int, v_str, v_bl, v_non, v_glob, v_add, v_sub, v_neg, v_idx, v_len, onV_d, onV_scr, onW_d, onW_scr, onW_own, simR, sv, frzT, E.sim?, E.var?, SE.var?, Tv.item, Tv.len, PyData.itemsOf, List.map_cons, List.map_nil, List.replicate, List.cons_append, List.nil_append, List.length_cons, List.length_nil, List.set_cons_zero, List.set_cons_succ, List.getElem?_cons_zero, List.getElem?_cons_succ, Option.join_some, Option.some.injEq, Option.map_some, exists_eq', exists_eq, exists_eq_left', exists_eq_left, exists_and_left, Option.bind_some, Option.bind_eq_bind, Option.pure_def, wipeR, restR, keepD, Tv.d.injEq, Tv.own.injEq, PyData.int.injEq, PyData.bool.injEq, PyData.tuple.injEq, PyData.list.injEq, PyData.str.injEq, List.cons.injEq, and_true, if_tt, if_ff, Option.bind_none, Option.getD_none, Option.getD_some, Int.sub_zero, Int.zero_add, and_assoc, true_and, exists_const, Nat.reduceAdd, Nat.reduceLT, Nat.reduceSub, Nat.zero_add]
    rw [r_cons]
    simp only [q_callO hT rfl, args1, feTake3, r_nil, r_set, r_unp, r_par, r_ix1, r_ix2, r_ixp, r_ixe, r_app, r_ext, r_expr, r_ret, r_retv, r_retN, r_if, r_for, r_while, r_pass, r_brk, r_cont, q_sim, q_bin, q_neg, q_cmp, q_isN, q_notN, q_chain, q_and, q_or, q_and1, q_and2, q_or1, q_or2, q_not, q_ite, q_tup, q_lst, q_idx, q_slice, q_rev, q_blt1, q_bltv, q_blt2, q_sortset, q_lrng, q_lc, q_pop, q_index, q_es0, q_es1, q_o0, q_o1, q_c0, q_c1, q_seq, q_rng, q_enum, q_zip, g_name, g_tup, g_t0, g_t1, o_add, o_sub, o_mul, o_fdiv, o_mod, o_pow, f_d, f_nil, c_lt, c_le, c_gt, c_ge, c_eq, c_ne, at0, at1, at2, ix0, ix1, ix2, v_var, v_int, v_str, v_bl, v_non, v_glob, v_add, v_sub, v_neg, v_idx, v_len, onV_d, onV_scr, onW_d, onW_scr, onW_own, simR, sv, frzT, E.sim?, E.var?, SE.var?, Tv.item, Tv.len, PyData.itemsOf, List.map_cons, List.map_nil, List.replicate, List.cons_append, List.nil_append, List.length_cons, List.length_nil, List.set_cons_zero, List.set_cons_succ, List.getElem?_cons_zero, List.getElem?_cons_succ, Option.join_some, Option.some.injEq, Option.map_some, exists_eq', exists_eq, exists_eq_left', exists_eq_left, exists_and_left, Option.bind_some, Option.bind_eq_bind, Option.pure_def, wipeR, restR, keepD, Tv.d.injEq, Tv.own.injEq, PyData.int.injEq, PyData.bool.injEq, PyData.tuple.injEq, PyData.list.injEq, PyData.str.injEq, List.cons.injEq, and_true, if_tt, if_ff, Option.bind_none, Option.getD_none, Option.getD_some, Int.sub_zero, Int.zero_add, and_assoc, true_and, exists_const, Nat.reduceAdd, Nat.reduceLT, Nat.reduceSub, Nat.zero_add]
    refine c_neNil (List.all_eq_true.mpr fun x hx => shal_sit (hP.sit x hx) 27) (if_l (fun hne => ?_) fun _ => tailU _ _ _ ss _ _ _ _ hP hP.len hP.sit hP.fit)
    refine ⟨_, rfl, a, b, c, _, rfl, by decide, lt_big (by decide), fun z a b c rest z0 z1 => ?_⟩
    simp only [r_nil, r_set, r_unp, r_par, r_ix1, r_ix2, r_ixp, r_ixe, r_app, r_ext, r_expr, r_ret, r_retv, r_retN, r_if, r_for, r_while, r_pass, r_brk, r_cont, q_sim, q_bin, q_neg, q_cmp, q_isN, q_notN, q_chain, q_and, q_or, q_and1, q_and2, q_or1, q_or2, q_not, q_ite, q_tup, q_lst, q_idx, q_slice, q_rev, q_blt1, q_bltv, q_blt2, q_sortset, q_lrng, q_lc, q_pop, q_index, q_es0, q_es1, q_o0, q_o1, q_c0, q_c1, q_seq, q_rng, q_enum, q_zip, g_name, g_tup, g_t0, g_t1, o_add, o_sub, o_mul, o_fdiv, o_mod, o_pow, f_d, f_nil, c_lt, c_le, c_gt, c_ge, c_eq, c_ne, at0, at1, at2, ix0, ix1, ix2, v_var, v_int, v_str, v_bl, v_non, v_glob, v_add, v_sub, v_neg, v_idx, v_len, onV_d, onV_scr, onW_d, onW_scr, onW_own, simR, sv, frzT, E.sim?, E.var?, SE.var?, Tv.item, Tv.len, PyData.itemsOf, List.map_cons, List.map_nil, List.replicate, List.cons_append, List.nil_append, List.length_cons, List.length_nil, List.set_cons_zero, List.set_cons_succ, List.getElem?_cons_zero, List.getElem?_cons_succ, Option.join_some, Option.some.injEq, Option.map_some, exists_eq', exists_eq, exists_eq_left', exists_eq_left, exists_and_left, Option.bind_some, Option.bind_eq_bind, Option.pure_def, wipeR, restR, keepD, Tv.d.injEq, Tv.own.injEq, PyData.int.injEq, PyData.bool.injEq, PyData.tuple.injEq, PyData.list.injEq, PyData.str.injEq, List.cons.injEq, and_true, if_tt, if_ff, Option.bind_none, Option.getD_none, Option.getD_some, Int.sub_zero, Int.zero_add, and_assoc, true_and, exists_const, Nat.reduceAdd, Nat.reduceLT, Nat.reduceSub, Nat.zero_add]
    refine if_l (fun _ => ?_) fun _ => tailU _ _ _ ss _ _ _ _ hP hP.len hP.sit hP.fit
    have hpos : 0 < ss.length := by
      cases ss with
      | nil => cases hne
      | cons x l => exact Nat.succ_pos _
    rw [r_cons]
    simp only [q_callO hT rfl, args1, feTake3, List.length_map, r_nil, r_set, r_unp, r_par, r_ix1, r_ix2, r_ixp, r_ixe, r_app, r_ext, r_expr, r_ret, r_retv, r_retN, r_if, r_for, r_while, r_pass, r_brk, r_cont, q_sim, q_bin, q_neg, q_cmp, q_isN, q_notN, q_chain, q_and, q_or, q_and1, q_and2, q_or1, q_or2, q_not, q_ite, q_tup, q_lst, q_idx, q_slice, q_rev, q_blt1, q_bltv, q_blt2, q_sortset, q_lrng, q_lc, q_pop, q_index, q_es0, q_es1, q_o0, q_o1, q_c0, q_c1, q_seq, q_rng, q_enum, q_zip, g_name, g_tup, g_t0, g_t1, o_add, o_sub, o_mul, o_fdiv, o_mod, o_pow, f_d, f_nil, c_lt, c_le, c_gt, c_ge, c_eq, c_ne, at0, at1, at2, ix0, ix1, ix2, v_var, v_int, v_str, v_bl, v_non, v_glob, v_add, v_sub, v_neg, v_idx, v_len, onV_d, onV_scr, onW_d, onW_scr, onW_own, simR, sv, frzT, E.sim?, E.var?, SE.var?, Tv.item, Tv.len, PyData.itemsOf, List.map_cons, List.map_nil, List.replicate, List.cons_append, List.nil_append, List.length_cons, List.length_nil, List.set_cons_zero, List.set_cons_succ, List.getElem?_cons_zero, List.getElem?_cons_succ, Option.join_some, Option.some.injEq, Option.map_some, exists_eq', exists_eq, exists_eq_left', exists_eq_left, exists_and_left, Option.bind_some, Option.bind_eq_bind, Option.pure_def, wipeR, restR, keepD, Tv.d.injEq, Tv.own.injEq, PyData.int.injEq, PyData.bool.injEq, PyData.tuple.injEq, PyData.list.injEq, PyData.str.injEq, List.cons.injEq, and_true, if_tt, if_ff, Option.bind_none, Option.getD_none, Option.getD_some, Int.sub_zero, Int.zero_add, and_assoc, true_and, exists_const, Nat.reduceAdd, Nat.reduceLT, Nat.reduceSub, Nat.zero_add]
    refine ⟨_, rfl, a, b, c, _, rfl, by omega, lt_big (by have := hP.len; omega), fun w a b c rest w0 w1 => ?_⟩
    simp only [r_nil, r_set, r_unp, r_par, r_ix1, r_ix2, r_ixp, r_ixe, r_app, r_ext, r_expr, r_ret, r_retv, r_retN, r_if, r_for, r_while, r_pass, r_brk, r_cont, q_sim, q_bin, q_neg, q_cmp, q_isN, q_notN, q_chain, q_and, q_or, q_and1, q_and2, q_or1, q_or2, q_not, q_ite, q_tup, q_lst, q_idx, q_slice, q_rev, q_blt1, q_bltv, q_blt2, q_sortset, q_lrng, q_lc, q_pop, q_index, q_es0, q_es1, q_o0, q_o1, q_c0, q_c1, q_seq, q_rng, q_enum, q_zip, g_name, g_tup, g_t0, g_t1, o_add, o_sub, o_mul, o_fdiv, o_mod, o_pow, f_d, f_nil, c_lt, c_le, c_gt, c_ge, c_eq, c_ne, at0, at1, at2, ix0, ix1, ix2, v_var, v_int, v_str, v_bl, v_non, v_glob, v_add, v_sub, v_neg, v_idx, v_len, onV_d, onV_scr, onW_d, onW_scr, onW_own, simR, sv, frzT, E.sim?, E.var?, SE.var?, Tv.item, Tv.len, PyData.itemsOf, List.map_cons, List.map_nil, List.replicate, List.cons_append, List.nil_append, List.length_cons, List.length_nil, List.set_cons_zero, List.set_cons_succ, List.getElem?_cons_zero, List.getElem?_cons_succ, Option.join_some, Option.some.injEq, Option.map_some, exists_eq', exists_eq, exists_eq_left', exists_eq_left, exists_and_left, Option.bind_some, Option.bind_eq_bind, Option.pure_def, wipeR, restR, keepD, Tv.d.injEq, Tv.own.injEq, PyData.int.injEq, PyData.bool.injEq, PyData.tuple.injEq, PyData.list.injEq, PyData.str.injEq, List.cons.injEq, and_true, if_tt, if_ff, Option.bind_none, Option.getD_none, Option.getD_some, Int.sub_zero, Int.zero_add, and_assoc, true_and, exists_const, Nat.reduceAdd, Nat.reduceLT, Nat.reduceSub, Nat.zero_add]
    have hw : w.toNat < ss.length := by omega
    refine ⟨w0, Int.lt_trans (show w < 100 by have := hP.len; omega) (by decide), .d ss[w.toNat], by simp [hw], ?_⟩
    rw [erase_map]
    exact tailU _ _ _ (ss.eraseIdx w.toNat) _ _ _ _ hP (Nat.le_trans (List.length_eraseIdx_le ..) hP.len) (fun f hf => hP.sit f (List.mem_of_mem_eraseIdx hf)) (hP.fit.sub (List.eraseIdx_sublist ..))
  have tail2 : ∀ (pr pk : Int) (ss : List PyData) (a b c : Int), PlanOk pr pk ss → wSL Γ Φ bPlanM
      { nx := fun ρ => Q (.d .none) ρ, rt := fun x ρ => Q x ρ } [some (deck a b c), some (.d (.int m)), some (.d (.int so)), some (.d (planD pr pk ss)), none, none, none] := by
    intro pr pk ss a b c hP
    rw [bPlanM, r_cons]
    simp only [r_nil, r_set, r_unp, r_par, r_ix1, r_ix2, r_ixp, r_ixe, r_app, r_ext, r_expr, r_ret, r_retv, r_retN, r_if, r_for, r_while, r_pass, r_brk, r_cont, q_sim, q_bin, q_neg, q_cmp, q_isN, q_notN, q_chain, q_and, q_or, q_and1, q_and2, q_or1, q_or2, q_not, q_ite, q_tup, q_lst, q_idx, q_slice, q_rev, q_blt1, q_bltv, q_blt2, q_sortset, q_lrng, q_lc, q_pop, q_index, q_es0, q_es1, q_o0, q_o1, q_c0, q_c1, q_seq, q_rng, q_enum, q_zip, g_name, g_tup, g_t0, g_t1, o_add, o_sub, o_mul, o_fdiv, o_mod, o_pow, f_d, f_nil, c_lt, c_le, c_gt, c_ge, c_eq, c_ne, at0, at1, at2, ix0, ix1, ix2, v_var, v_int, v_str, v_bl, v_non, v_glob, v_add, v_sub, v_neg, v_idx, v_len, onV_d, onV_scr, onW_d, onW_scr, onW_own, simR, sv, frzT, E.sim?, E.var?, SE.var?, Tv.item, Tv.len, PyData.itemsOf, List.map_cons, List.map_nil, List.replicate, List.cons_append, List.nil_append, List.length_cons, List.length_nil, List.set_cons_zero, List.set_cons_succ, List.getElem?_cons_zero, List.getElem?_cons_succ, Option.join_some, Option.some.injEq, Option.map_some, exists_eq', exists_eq, exists_eq_left', exists_eq_left, exists_and_left, Option.bind_some, Option.bind_eq_bind, Option.pure_def, wipeR, restR, keepD, Tv.d.injEq, Tv.own.injEq, PyData.int.injEq, PyData.bool.injEq, PyData.tuple.injEq, PyData.list.injEq, PyData.str.injEq, List.cons.injEq, and_true, if_tt, if_ff, Option.bind_none, Option.getD_none, Option.getD_some, Int.sub_zero, Int.zero_add, and_assoc, true_and, exists_const, Nat.reduceAdd, Nat.reduceLT, Nat.reduceSub, Nat.zero_add]
    refine if_l (fun _ => if_l (fun h3 => ?_) fun _ => tail _ _ _ _ _ _ _ hP) fun _ => tail _ _ _ _ _ _ _ hP
    have h3 : 3 < m := of_decide_eq_true h3
    rw [r_cons]
    simp only [q_callO hT rfl, args1, feTake3, r_nil, r_set, r_unp, r_par, r_ix1, r_ix2, r_ixp, r_ixe, r_app, r_ext, r_expr, r_ret, r_retv, r_retN, r_if, r_for, r_while, r_pass, r_brk, r_cont, q_sim, q_bin, q_neg, q_cmp, q_isN, q_notN, q_chain, q_and, q_or, q_and1, q_and2, q_or1, q_or2, q_not, q_ite, q_tup, q_lst, q_idx, q_slice, q_rev, q_blt1, q_bltv, q_blt2, q_sortset, q_lrng, q_lc, q_pop, q_index, q_es0, q_es1, q_o0, q_o1, q_c0, q_c1, q_seq, q_rng, q_enum, q_zip, g_name, g_tup, g_t0, g_t1, o_add, o_sub, o_mul, o_fdiv, o_mod, o_pow, f_d, f_nil, c_lt, c_le, c_gt, c_ge, c_eq, c_ne, at0, at1, at2, ix0, ix1, ix2, v_var, v_int, v_str, v_bl, v_non, v_glob, v_add, v_sub, v_neg, v_idx, v_len, onV_d, onV_scr, onW_d, onW_scr, onW_own, simR, sv, frzT, E.sim?, E.var?, SE.var?, Tv.item, Tv.len, PyData.itemsOf, List.map_cons, List.map_nil, List.replicate, List.cons_append, List.nil_append, List.length_cons, List.length_nil, List.set_cons_zero, List.set_cons_succ, List.getElem?_cons_zero, List.getElem?_cons_succ, Option.join_some, Option.some.injEq, Option.map_some, exists_eq', exists_eq, exists_eq_left', exists_eq_left, exists_and_left, Option.bind_some, Option.bind_eq_bind, Option.pure_def, wipeR, restR, keepD, Tv.d.injEq, Tv.own.injEq, PyData.int.injEq, PyData.bool.injEq, PyData.tuple.injEq, PyData.list.injEq, PyData.str.injEq, List.cons.injEq, and_true, if_tt, if_ff, Option.bind_none, Option.getD_none, Option.getD_some, Int.sub_zero, Int.zero_add, and_assoc, true_and, exists_const, Nat.reduceAdd, Nat.reduceLT, Nat.reduceSub, Nat.zero_add]
    refine ⟨wide_div (b := 2) (by decide) (by decide) (by decide) (by decide), _, rfl, a, b, c, _, rfl, by omega, lt_big (by omega), fun z a b c rest z0 z1 => ?_⟩
    simp only [r_nil, r_set, r_unp, r_par, r_ix1, r_ix2, r_ixp, r_ixe, r_app, r_ext, r_expr, r_ret, r_retv, r_retN, r_if, r_for, r_while, r_pass, r_brk, r_cont, q_sim, q_bin, q_neg, q_cmp, q_isN, q_notN, q_chain, q_and, q_or, q_and1, q_and2, q_or1, q_or2, q_not, q_ite, q_tup, q_lst, q_idx, q_slice, q_rev, q_blt1, q_bltv, q_blt2, q_sortset, q_lrng, q_lc, q_pop, q_index, q_es0, q_es1, q_o0, q_o1, q_c0, q_c1, q_seq, q_rng, q_enum, q_zip, g_name, g_tup, g_t0, g_t1, o_add, o_sub, o_mul, o_fdiv, o_mod, o_pow, f_d, f_nil, c_lt, c_le, c_gt, c_ge, c_eq, c_ne, at0, at1, at2, ix0, ix1, ix2, v_var, v_int, v_str, v_bl, v_non, v_glob, v_add, v_sub, v_neg, v_idx, v_len, onV_d, onV_scr, onW_d, onW_scr, onW_own, simR, sv, frzT, E.sim?, E.var?, SE.var?, Tv.item, Tv.len, PyData.itemsOf, List.map_cons, List.map_nil, List.replicate, List.cons_append, List.nil_append, List.length_cons, List.length_nil, List.set_cons_zero, List.set_cons_succ, List.getElem?_cons_zero, List.getElem?_cons_succ, Option.join_some, Option.some.injEq, Option.map_some, exists_eq', exists_eq, exists_eq_left', exists_eq_left, exists_and_left, Option.bind_some, Option.bind_eq_bind, Option.pure_def, wipeR, restR, keepD, Tv.d.injEq, Tv.own.injEq, PyData.int.injEq, PyData.bool.injEq, PyData.tuple.injEq, PyData.list.injEq, PyData.str.injEq, List.cons.injEq, and_true, if_tt, if_ff, Option.bind_none, Option.getD_none, Option.getD_some, Int.sub_zero, Int.zero_add, and_assoc, true_and, exists_const, Nat.reduceAdd, Nat.reduceLT, Nat.reduceSub, Nat.zero_add]
    rw [r_cons]
    simp only [q_call hM rfl, q_callO hT rfl, args1, feTake3, feMoving3, r_nil, r_set, r_unp, r_par, r_ix1, r_ix2, r_ixp, r_ixe, r_app, r_ext, r_expr, r_ret, r_retv, r_retN, r_if, r_for, r_while, r_pass, r_brk, r_cont, q_sim, q_bin, q_neg, q_cmp, q_isN, q_notN, q_chain, q_and, q_or, q_and1, q_and2, q_or1, q_or2, q_not, q_ite, q_tup, q_lst, q_idx, q_slice, q_rev, q_blt1, q_bltv, q_blt2, q_sortset, q_lrng, q_lc, q_pop, q_index, q_es0, q_es1, q_o0, q_o1, q_c0, q_c1, q_seq, q_rng, q_enum, q_zip, g_name, g_tup, g_t0, g_t1, o_add, o_sub, o_mul, o_fdiv, o_mod, o_pow, f_d, f_nil, c_lt, c_le, c_gt, c_ge, c_eq, c_ne, at0, at1, at2, ix0, ix1, ix2, v_var, v_int, v_str, v_bl, v_non, v_glob, v_add, v_sub, v_neg, v_idx, v_len, onV_d, onV_scr, onW_d, onW_scr, onW_own, simR, sv, frzT, E.sim?, E.var?, SE.var?, Tv.item, Tv.len, PyData.itemsOf, List.map_cons, List.map_nil, List.replicate, List.cons_append, List.nil_append, List.length_cons, List.length_nil, List.set_cons_zero, List.set_cons_succ, List.getElem?_cons_zero, List.getElem?_cons_succ, Option.join_some, Option.some.injEq, Option.map_some, exists_eq', exists_eq, exists_eq_left', exists_eq_left, exists_and_left, Option.bind_some, Option.bind_eq_bind, Option.pure_def, wipeR, restR, keepD, Tv.d.injEq, Tv.own.injEq, PyData.int.injEq, PyData.bool.injEq, PyData.tuple.injEq, PyData.list.injEq, PyData.str.injEq, List.cons.injEq, and_true, if_tt, if_ff, Option.bind_none, Option.getD_none, Option.getD_some, Int.sub_zero, Int.zero_add, and_assoc, true_and, exists_const, Nat.reduceAdd, Nat.reduceLT, Nat.reduceSub, Nat.zero_add]
    refine ⟨_, rfl, a, b, c, _, rfl, by omega, lt_big (by omega), fun s a b c rest s0 s1 => ?_⟩
    simp only [args22, r_nil, r_set, r_unp, r_par, r_ix1, r_ix2, r_ixp, r_ixe, r_app, r_ext, r_expr, r_ret, r_retv, r_retN, r_if, r_for, r_while, r_pass, r_brk, r_cont, q_sim, q_bin, q_neg, q_cmp, q_isN, q_notN, q_chain, q_and, q_or, q_and1, q_and2, q_or1, q_or2, q_not, q_ite, q_tup, q_lst, q_idx, q_slice, q_rev, q_blt1, q_bltv, q_blt2, q_sortset, q_lrng, q_lc, q_pop, q_index, q_es0, q_es1, q_o0, q_o1, q_c0, q_c1, q_seq, q_rng, q_enum, q_zip, g_name, g_tup, g_t0, g_t1, o_add, o_sub, o_mul, o_fdiv, o_mod, o_pow, f_d, f_nil, c_lt, c_le, c_gt, c_ge, c_eq, c_ne, at0, at1, at2, ix0, ix1, ix2, v_var, v_int, v_str, v_bl, v_non, v_glob, v_add, v_sub, v_neg, v_idx, v_len, onV_d, onV_scr, onW_d, onW_scr, onW_own, simR, sv, frzT, E.sim?, E.var?, SE.var?, Tv.item, Tv.len, PyData.itemsOf, List.map_cons, List.map_nil, List.replicate, List.cons_append, List.nil_append, List.length_cons, List.length_nil, List.set_cons_zero, List.set_cons_succ, List.getElem?_cons_zero, List.getElem?_cons_succ, Option.join_some, Option.some.injEq, Option.map_some, exists_eq', exists_eq, exists_eq_left', exists_eq_left, exists_and_left, Option.bind_some, Option.bind_eq_bind, Option.pure_def, wipeR, restR, keepD, Tv.d.injEq, Tv.own.injEq, PyData.int.injEq, PyData.bool.injEq, PyData.tuple.injEq, PyData.list.injEq, PyData.str.injEq, List.cons.injEq, and_true, if_tt, if_ff, Option.bind_none, Option.getD_none, Option.getD_some, Int.sub_zero, Int.zero_add, and_assoc, true_and, exists_const, Nat.reduceAdd, Nat.reduceLT, Nat.reduceSub, Nat.zero_add]
    refine ⟨_, _, rfl, by omega, by omega, by omega, by omega, fun ss rest hP => ?_⟩
    simp only [r_nil, r_set, r_unp, r_par, r_ix1, r_ix2, r_ixp, r_ixe, r_app, r_ext, r_expr, r_ret, r_retv, r_retN, r_if, r_for, r_while, r_pass, r_brk, r_cont, q_sim, q_bin, q_neg, q_cmp, q_isN, q_notN, q_chain, q_and, q_or, q_and1, q_and2, q_or1, q_or2, q_not, q_ite, q_tup, q_lst, q_idx, q_slice, q_rev, q_blt1, q_bltv, q_blt2, q_sortset, q_lrng, q_lc, q_pop, q_index, q_es0, q_es1, q_o0, q_o1, q_c0, q_c1, q_seq, q_rng, q_enum, q_zip, g_name, g_tup, g_t0, g_t1, o_add, o_sub, o_mul, o_fdiv, o_mod, o_pow, f_d, f_nil, c_lt, c_le, c_gt, c_ge, c_eq, c_ne, at0, at1, at2, ix0, ix1, ix2, v_var, v_int, v_str, v_bl, v_non, v_glob, v_add, v_sub, v_neg, v_idx, v_len, onV_d, onV_scr, onW_d, onW_scr, onW_own, simR, sv, frzT, E.sim?, E.var?, SE.var?, Tv.item, Tv.len, PyData.itemsOf, List.map_cons, List.map_nil, List.replicate, List.cons_append, List.nil_append, List.length_cons, List.length_nil, List.set_cons_zero, List.set_cons_succ, List.getElem?_cons_zero, List.getElem?_cons_succ, Option.join_some, Option.some.injEq, Option.map_some, exists_eq', exists_eq, exists_eq_left', exists_eq_left, exists_and_left, Option.bind_some, Option.bind_eq_bind, Option.pure_def, wipeR, restR, keepD, Tv.d.injEq, Tv.own.injEq, PyData.int.injEq, PyData.bool.injEq, PyData.tuple.injEq, PyData.list.injEq, PyData.str.injEq, List.cons.injEq, and_true, if_tt, if_ff, Option.bind_none, Option.getD_none, Option.getD_some, Int.sub_zero, Int.zero_add, and_assoc, true_and, exists_const, Nat.reduceAdd, Nat.reduceLT, Nat.reduceSub, Nat.zero_add]
    exact tail _ _ _ _ _ _ _ hP
  rw [r_cons]
  simp only [r_nil, r_set, r_unp, r_par, r_ix1, r_ix2, r_ixp, r_ixe, r_app, r_ext, r_expr, r_ret, r_retv, r_retN, r_if, r_for, r_while, r_pass, r_brk, r_cont, q_sim, q_bin, q_neg, q_cmp, q_isN, q_notN, q_chain, q_and, q_or, q_and1, q_and2, q_or1, q_or2, q_not, q_ite, q_tup, q_lst, q_idx, q_slice, q_rev, q_blt1, q_bltv, q_blt2, q_sortset, q_lrng, q_lc, q_pop, q_index, q_es0, q_es1, q_o0, q_o1, q_c0, q_c1, q_seq, q_rng, q_enum, q_zip, g_name, g_tup, g_t0, g_t1, o_add, o_sub, o_mul, o_fdiv, o_mod, o_pow, f_d, f_nil, c_lt, c_le, c_gt, c_ge, c_eq, c_ne, at0, at1, at2, ix0, ix1, ix2, v_var, v_int, v_str, v_bl, v_non, v_glob, v_add, v_sub, v_neg, v_idx, v_len, onV_d, onV_scr, onW_d, onW_scr, onW_own, simR, sv, frzT, E.sim?, E.var?, SE.var?, Tv.item, Tv.len, PyData.itemsOf, List.map_cons, List.map_nil, List.replicate, List.cons_append, List.nil_append, List.length_cons, List.length_nil, List.set_cons_zero, List.set_cons_succ, List.getElem?_cons_zero, List.getElem?_cons_succ, Option.join_some, Option.some.injEq, Option.map_some, exists_eq', exists_eq, exists_eq_left', exists_eq_left, exists_and_left, Option.bind_some, Option.bind_eq_bind, Option.pure_def, wipeR, restR, keepD, Tv.d.injEq, Tv.own.injEq, PyData.int.injEq, PyData.bool.injEq, PyData.tuple.injEq, PyData.list.injEq, PyData.str.injEq, List.cons.injEq, and_true, if_tt, if_ff, Option.bind_none, Option.getD_none, Option.getD_some, Int.sub_zero, Int.zero_add, and_assoc, true_and, exists_const, Nat.reduceAdd, Nat.reduceLT, Nat.reduceSub, Nat.zero_add]
  refine if_l (fun _ => if_l (fun h3 => ?_) fun _ => tail2 _ _ _ _ _ _ hP) fun _ => tail2 _ _ _ _ _ _ hP
  have h3 : 3 < m := of_decide_eq_true h3
  rw [r_cons]
  simp only [q_call hR rfl, q_callO hT rfl, args1, feTake3, feRing3, r_nil, r_set, r_unp, r_par, r_ix1, r_ix2, r_ixp, r_ixe, r_app, r_ext, r_expr, r_ret, r_retv, r_retN, r_if, r_for, r_while, r_pass, r_brk, r_cont, q_sim, q_bin, q_neg, q_cmp, q_isN, q_notN, q_chain, q_and, q_or, q_and1, q_and2, q_or1, q_or2, q_not, q_ite, q_tup, q_lst, q_idx, q_slice, q_rev, q_blt1, q_bltv, q_blt2, q_sortset, q_lrng, q_lc, q_pop, q_index, q_es0, q_es1, q_o0, q_o1, q_c0, q_c1, q_seq, q_rng, q_enum, q_zip, g_name, g_tup, g_t0, g_t1, o_add, o_sub, o_mul, o_fdiv, o_mod, o_pow, f_d, f_nil, c_lt, c_le, c_gt, c_ge, c_eq, c_ne, at0, at1, at2, ix0, ix1, ix2, v_var, v_int, v_str, v_bl, v_non, v_glob, v_add, v_sub, v_neg, v_idx, v_len, onV_d, onV_scr, onW_d, onW_scr, onW_own, simR, sv, frzT, E.sim?, E.var?, SE.var?, Tv.item, Tv.len, PyData.itemsOf, List.map_cons, List.map_nil, List.replicate, List.cons_append, List.nil_append, List.length_cons, List.length_nil, List.set_cons_zero, List.set_cons_succ, List.getElem?_cons_zero, List.getElem?_cons_succ, Option.join_some, Option.some.injEq, Option.map_some, exists_eq', exists_eq, exists_eq_left', exists_eq_left, exists_and_left, Option.bind_some, Option.bind_eq_bind, Option.pure_def, wipeR, restR, keepD, Tv.d.injEq, Tv.own.injEq, PyData.int.injEq, PyData.bool.injEq, PyData.tuple.injEq, PyData.list.injEq, PyData.str.injEq, List.cons.injEq, and_true, if_tt, if_ff, Option.bind_none, Option.getD_none, Option.getD_some, Int.sub_zero, Int.zero_add, and_assoc, true_and, exists_const, Nat.reduceAdd, Nat.reduceLT, Nat.reduceSub, Nat.zero_add]
  refine ⟨wide_div (b := 2) (by decide) (by decide) (by decide) (by decide), _, rfl, a, b, c, _, rfl, by omega, lt_big (by omega), fun z a b c rest z0 z1 => ?_⟩
  simp only [r_nil, r_set, r_unp, r_par, r_ix1, r_ix2, r_ixp, r_ixe, r_app, r_ext, r_expr, r_ret, r_retv, r_retN, r_if, r_for, r_while, r_pass, r_brk, r_cont, q_sim, q_bin, q_neg, q_cmp, q_isN, q_notN, q_chain, q_and, q_or, q_and1, q_and2, q_or1, q_or2, q_not, q_ite, q_tup, q_lst, q_idx, q_slice, q_rev, q_blt1, q_bltv, q_blt2, q_sortset, q_lrng, q_lc, q_pop, q_index, q_es0, q_es1, q_o0, q_o1, q_c0, q_c1, q_seq, q_rng, q_enum, q_zip, g_name, g_tup, g_t0, g_t1, o_add, o_sub, o_mul, o_fdiv, o_mod, o_pow, f_d, f_nil, c_lt, c_le, c_gt, c_ge, c_eq, c_ne, at0, at1, at2, ix0, ix1, ix2, v_var, v_int, v_str, v_bl, v_non, v_glob, v_add, v_sub, v_neg, v_idx, v_len, onV_d, onV_scr, onW_d, onW_scr, onW_own, simR, sv, frzT, E.sim?, E.var?, SE.var?, Tv.item, Tv.len, PyData.itemsOf, List.map_cons, List.map_nil, List.replicate, List.cons_append, List.nil_append, List.length_cons, List.length_nil, List.set_cons_zero, List.set_cons_succ, List.getElem?_cons_zero, List.getElem?_cons_succ, Option.join_some, Option.some.injEq, Option.map_some, exists_eq', exists_eq, exists_eq_left', exists_eq_left, exists_and_left, Option.bind_some, Option.bind_eq_bind, Option.pure_def, wipeR, restR, keepD, Tv.d.injEq, Tv.own.injEq, PyData.int.injEq, PyData.bool.injEq, PyData.tuple.injEq, PyData.list.injEq, PyData.str.injEq, List.cons.injEq, and_true, if_tt, if_ff, Option.bind_none, Option.getD_none, Option.getD_some, Int.sub_zero, Int.zero_add, and_assoc, true_and, exists_const, Nat.reduceAdd, Nat.reduceLT, Nat.reduceSub, Nat.zero_add]
  refine ⟨_, rfl, a, b, c, _, rfl, by decide, lt_big (by decide), fun s a b c rest s0 s1 => ?_⟩
  simp only [args22, r_nil, r_set, r_unp, r_par, r_ix1, r_ix2, r_ixp, r_ixe, r_app, r_ext, r_expr, r_ret, r_retv, r_retN, r_if, r_for, r_while, r_pass, r_brk, r_cont, q_sim, q_bin, q_neg, q_cmp, q_isN, q_notN, q_chain, q_and, q_or, q_and1, q_and2, q_or1, q_or2, q_not, q_ite, q_tup, q_lst, q_idx, q_slice, q_rev, q_blt1, q_bltv, q_blt2, q_sortset, q_lrng, q_lc, q_pop, q_index, q_es0, q_es1, q_o0, q_o1, q_c0, q_c1, q_seq, q_rng, q_enum, q_zip, g_name, g_tup, g_t0, g_t1, o_add, o_sub, o_mul, o_fdiv, o_mod, o_pow, f_d, f_nil, c_lt, c_le, c_gt, c_ge, c_eq, c_ne, at0, at1, at2, ix0, ix1, ix2, v_var, v_int, v_str, v_bl, v_non, v_glob, v_add, v_sub, v_neg, v_idx, v_len, onV_d, onV_scr, onW_d, onW_scr, onW_own, simR, sv, frzT, E.sim?, E.var?, SE.var?, Tv.item, Tv.len, PyData.itemsOf, List.map_cons, List.map_nil, List.replicate, List.cons_append, List.nil_append, List.length_cons, List.length_nil, List.set_cons_zero, List.set_cons_succ, List.getElem?_cons_zero, List.getElem?_cons_succ, Option.join_some, Option.some.injEq, Option.map_some, exists_eq', exists_eq, exists_eq_left', exists_eq_left, exists_and_left, Option.bind_some, Option.bind_eq_bind, Option.pure_def, wipeR, restR, keepD, Tv.d.injEq, Tv.own.injEq, PyData.int.injEq, PyData.bool.injEq, PyData.tuple.injEq, PyData.list.injEq, PyData.str.injEq, List.cons.injEq, and_true, if_tt, if_ff, Option.bind_none, Option.getD_none, Option.getD_some, Int.sub_zero, Int.zero_add, and_assoc, true_and, exists_const, Nat.reduceAdd, Nat.reduceLT, Nat.reduceSub, Nat.zero_add]
  refine ⟨_, _, rfl, by omega, by omega, fun ss rest hP => ?_⟩
  simp only [r_nil, r_set, r_unp, r_par, r_ix1, r_ix2, r_ixp, r_ixe, r_app, r_ext, r_expr, r_ret, r_retv, r_retN, r_if, r_for, r_while, r_pass, r_brk, r_cont, q_sim, q_bin, q_neg, q_cmp, q_isN, q_notN, q_chain, q_and, q_or, q_and1, q_and2, q_or1, q_or2, q_not, q_ite, q_tup, q_lst, q_idx, q_slice, q_rev, q_blt1, q_bltv, q_blt2, q_sortset, q_lrng, q_lc, q_pop, q_index, q_es0, q_es1, q_o0, q_o1, q_c0, q_c1, q_seq, q_rng, q_enum, q_zip, g_name, g_tup, g_t0, g_t1, o_add, o_sub, o_mul, o_fdiv, o_mod, o_pow, f_d, f_nil, c_lt, c_le, c_gt, c_ge, c_eq, c_ne, at0, at1, at2, ix0, ix1, ix2, v_var, v_int, v_str, v_bl, v_non, v_glob, v_add, v_sub, v_neg, v_idx, v_len, onV_d, onV_scr, onW_d, onW_scr, onW_own, simR, sv, frzT, E.sim?, E.var?, SE.var?, Tv.item, Tv.len, PyData.itemsOf, List.map_cons, List.map_nil, List.replicate, List.cons_append, List.nil_append, List.length_cons, List.length_nil, List.set_cons_zero, List.set_cons_succ, List.getElem?_cons_zero, List.getElem?_cons_succ, Option.join_some, Option.some.injEq, Option.map_some, exists_eq', exists_eq, exists_eq_left', exists_eq_left, exists_and_left, Option.bind_some, Option.bind_eq_bind, Option.pure_def, wipeR, restR, keepD, Tv.d.injEq, Tv.own.injEq, PyData.int.injEq, PyData.bool.injEq, PyData.tuple.injEq, PyData.list.injEq, PyData.str.injEq, List.cons.injEq, and_true, if_tt, if_ff, Option.bind_none, Option.getD_none, Option.getD_some, Int.sub_zero, Int.zero_add, and_assoc, true_and, exists_const, Nat.reduceAdd, Nat.reduceLT, Nat.reduceSub, Nat.zero_add]
  exact tail2 _ _ _ _ _ _ hP
end Tr
set_option Elab.async false
set_option linter.all false
set_option maxRecDepth 100000
set_option maxHeartbeats 4000000
set_option exponentiation.threshold 3000
namespace Tr
open PySem PySem.Spec PyProof.Rows L2
/-! the plays of a plan -/
def Trip (pr pk : Int) (d : PyData) : Prop := ∃ p n e : Int, d = tripD p n e ∧ 0 ≤ p ∧ p < pk ∧ 0 ≤ n ∧ n < pr ∧ 0 ≤ e ∧ e < pr
def playsL (ss : List PyData) : List PyData := (ss.flatMap tripsOf).mergeSort dle
theorem trips_ok {pr pk : Int} {s : PyData} (h : Sit pr pk s) : (tripsOf s).length ≤ 8 ∧ ∀ x ∈ tripsOf s, Trip pr pk x := by
  obtain ⟨t, n, e, ps, rfl, _, _, a3, a4, a5, a6, a7, a8⟩ := h
  rw [trips_sit]
  refine ⟨by rw [List.length_map]; exact a8, fun x hx => ?_⟩
  obtain ⟨p, hp, rfl⟩ := List.mem_map.mp hx
  exact ⟨p, n, e, rfl, (a7 p hp).1, (a7 p hp).2, a3, a4, a5, a6⟩
theorem trips_len {pr pk : Int} : ∀ {ss : List PyData}, (∀ s ∈ ss, Sit pr pk s) → (ss.flatMap tripsOf).length ≤ 8 * ss.length
  | [], _ => Nat.le_refl _
  | s :: ss, h => by
    rw [List.flatMap_cons, List.length_append, List.length_cons]
    have h1 := (trips_ok (h s (by simp))).1
    have h2 := trips_len (ss := ss) fun x hx => h x (by simp [hx])
    omega
theorem trips_all {pr pk : Int} {ss : List PyData} (h : ∀ s ∈ ss, Sit pr pk s) : ∀ x ∈ ss.flatMap tripsOf, Trip pr pk x := fun x hx => by
  obtain ⟨s, hs, hx⟩ := List.mem_flatMap.mp hx
  exact (trips_ok (h s hs)).2 x hx
theorem trip_sort {pr pk : Int} {xs : List PyData} (h : ∀ x ∈ xs, Trip pr pk x) : SortOk xs where
  al := fun a ha b hb => by
    obtain ⟨p, n, e, rfl, _⟩ := h a ha
    obtain ⟨p', n', e', rfl, _⟩ := h b hb
    simp [tripD, PySem.W.alike, PySem.W.alikeAll]
  so := .inl fun d hd => by
    obtain ⟨p, n, e, rfl, _⟩ := h d hd
    exact ⟨_, _, rfl⟩
  sh := fun x hx => by
    obtain ⟨p, n, e, rfl, _⟩ := h x hx
    rfl
theorem plays_len {pr pk : Int} {ss : List PyData} (h : PlanOk pr pk ss) : (playsL ss).length ≤ 480 := by
  unfold playsL
  rw [List.length_mergeSort]
  have h1 := trips_len h.sit
  have h2 := h.len
  omega
theorem plays_all {pr pk : Int} {ss : List PyData} (h : PlanOk pr pk ss) : ∀ x ∈ playsL ss, Trip pr pk x := fun x hx => trips_all h.sit x (List.mem_mergeSort.mp hx)
def bPlays : SL := (.cons (.set 1 (.lst .nil))
  (.cons (.for_ (.tup (.cons (.name 2) (.cons (.name 3) (.cons (.name 4) (.cons (.name 5) .nil))))) (.seq (.sim (.idx (.var 0) (.int 2))))
  (.cons (.ext 1 (.lc (.tup (.cons (.sim (.var 6)) (.cons (.sim (.var 3)) (.cons (.sim (.var 4)) .nil)))) (.name 6) (.seq (.sim (.var 5))) .non [6]))
  .nil)
  [2, 3, 4, 5])
  (.cons (.ret (.blt1 .tuple (.blt1 .sorted (.sim (.var 1)))))
  .nil)))
def bLawPlays : SL := (.cons (.set 1 (.lst .nil))
  (.cons (.for_ (.tup (.cons (.name 2) (.cons (.name 3) (.cons (.name 4) (.cons (.name 5) .nil))))) (.seq (.sim (.idx (.var 0) (.int 2))))
  (.cons (.ext 1 (.lc (.tup (.cons (.sim (.var 6)) (.cons (.sim (.var 3)) (.cons (.sim (.var 4)) .nil)))) (.name 6) (.seq (.sim (.var 5))) .non [6]))
  .nil)
  [2, 3, 4, 5])
  (.cons (.ret (.blt1 .sorted (.sim (.var 1))))
  .nil)))
def spPlays : FS := fun xs Q => ∃ pr pk ss, xs = [.d (planD pr pk ss)] ∧ PlanOk pr pk ss ∧ ∀ rest, Q (.d (.tuple (playsL ss))) rest
def spLawPlays : FS := fun xs Q => ∃ pr pk ss, xs = [.d (planD pr pk ss)] ∧ PlanOk pr pk ss ∧ ∀ rest, Q (.own ((playsL ss).map .d)) rest
theorem plays_loop {Γ : Gam} {Φ : Phi} {pr pk : Int} {ss : List PyData} (hP : PlanOk pr pk ss) {D : DE} (hD : D.nx [some (.d (planD pr pk ss)), some (.own ((ss.flatMap tripsOf).map .d)), none, none, none, none, none]) :
    wForL (.tup (.cons (.name 2) (.cons (.name 3) (.cons (.name 4) (.cons (.name 5) .nil))))) ss
      (wSL Γ Φ (.cons (.ext 1 (.lc (.tup (.cons (.sim (.var 6)) (.cons (.sim (.var 3)) (.cons (.sim (.var 4)) .nil)))) (.name 6) (.seq (.sim (.var 5))) .non [6])) .nil)) [2, 3, 4, 5] D
      [some (.d (planD pr pk ss)), some (.own []), none, none, none, none, none] := by
  refine ⟨fun k ρ => ρ = [some (.d (planD pr pk ss)), some (.own (((ss.take k).flatMap tripsOf).map .d)), none, none, none, none, none], rfl, ?_, ?_⟩
  · rintro k x ρ2 hx rfl
    have hk := (List.getElem?_eq_some_iff.mp hx).1
    have hlen := hP.len
    have hsit := hP.sit x (List.mem_of_getElem? hx)
    have htl := trips_len (ss := ss.take k) fun s hs => hP.sit s (List.mem_of_mem_take hs)
    have htk := List.length_take_le k ss
    obtain ⟨t, n, e, ps, rfl, hrest⟩ := hsit
    have h8 : ps.length ≤ 8 := hrest.2.2.2.2.2.2.2
    simp only [sitD, r_nil, r_cons, r_set, r_unp, r_par, r_ix1, r_ix2, r_ixp, r_ixe, r_app, r_ext, r_expr, r_ret, r_retv, r_retN, r_if, r_for, r_while, r_pass, r_brk, r_cont, q_sim, q_bin, q_neg, q_cmp, q_isN, q_notN, q_chain, q_and, q_or, q_and1, q_and2, q_or1, q_or2, q_not, q_ite, q_tup, q_lst, q_idx, q_slice, q_rev, q_blt1, q_bltv, q_blt2, q_sortset, q_lrng, q_lc, q_pop, q_index, q_es0, q_es1, q_o0, q_o1, q_c0, q_c1, q_seq, q_rng, q_enum, q_zip, g_name, g_tup, g_t0, g_t1, o_add, o_sub, o_mul, o_fdiv, o_mod, o_pow, f_d, f_nil, c_lt, c_le, c_gt, c_ge, c_eq, c_ne, at0, at1, at2, ix0, ix1, ix2, v_var, v_int, v_str, v_bl, v_non, v_glob, v_add, v_sub, v_neg, v_idx, v_len, onV_d, onV_scr, onW_d, onW_scr, onW_own, simR, sv, frzT, E.sim?, E.var?, SE.var?, Tv.item, Tv.len, PyData.itemsOf, List.map_cons, List.map_nil, List.replicate, List.cons_append, List.nil_append, List.length_cons, List.length_nil, List.set_cons_zero, List.set_cons_succ, List.getElem?_cons_zero, List.getElem?_cons_succ, Option.join_some, Option.some.injEq, Option.map_some, exists_eq', exists_eq, exists_eq_left', exists_eq_left, exists_and_left, Option.bind_some, Option.bind_eq_bind, Option.pure_def, wipeR, restR, keepD, Tv.d.injEq, Tv.own.injEq, PyData.int.injEq, PyData.bool.injEq, PyData.tuple.injEq, PyData.list.injEq, PyData.str.injEq, List.cons.injEq, and_true, if_tt, if_ff, Option.bind_none, Option.getD_none, Option.getD_some, Int.sub_zero, Int.zero_add, and_assoc, true_and, exists_const, Nat.reduceAdd, Nat.reduceLT, Nat.reduceSub, Nat.zero_add]
    refine ⟨fun j acc ρ => acc = ((ps.take j).map fun p => tripD p n e).map Tv.d ∧ ρ = [some (.d (planD pr pk ss)), some (.own (((ss.take k).flatMap tripsOf).map .d)), some (.d (.int t)), some (.d (.int n)), some (.d (.int e)), some (.d (.tuple (ps.map .int))), none], ⟨rfl, rfl⟩, ?_, ?_⟩
    · rintro j y acc ρ2 hy ⟨rfl, rfl⟩
      rw [List.getElem?_map] at hy
      obtain ⟨p, hp, rfl⟩ := Option.map_eq_some_iff.mp hy
      have hj := (List.getElem?_eq_some_iff.mp hp).1
      simp only [fz3, List.length_map, List.length_take, r_nil, r_cons, r_set, r_unp, r_par, r_ix1, r_ix2, r_ixp, r_ixe, r_app, r_ext, r_expr, r_ret, r_retv, r_retN, r_if, r_for, r_while, r_pass, r_brk, r_cont, q_sim, q_bin, q_neg, q_cmp, q_isN, q_notN, q_chain, q_and, q_or, q_and1, q_and2, q_or1, q_or2, q_not, q_ite, q_tup, q_lst, q_idx, q_slice, q_rev, q_blt1, q_bltv, q_blt2, q_sortset, q_lrng, q_lc, q_pop, q_index, q_es0, q_es1, q_o0, q_o1, q_c0, q_c1, q_seq, q_rng, q_enum, q_zip, g_name, g_tup, g_t0, g_t1, o_add, o_sub, o_mul, o_fdiv, o_mod, o_pow, f_d, f_nil, c_lt, c_le, c_gt, c_ge, c_eq, c_ne, at0, at1, at2, ix0, ix1, ix2, v_var, v_int, v_str, v_bl, v_non, v_glob, v_add, v_sub, v_neg, v_idx, v_len, onV_d, onV_scr, onW_d, onW_scr, onW_own, simR, sv, frzT, E.sim?, E.var?, SE.var?, Tv.item, Tv.len, PyData.itemsOf, List.map_cons, List.map_nil, List.replicate, List.cons_append, List.nil_append, List.length_cons, List.length_nil, List.set_cons_zero, List.set_cons_succ, List.getElem?_cons_zero, List.getElem?_cons_succ, Option.join_some, Option.some.injEq, Option.map_some, exists_eq', exists_eq, exists_eq_left', exists_eq_left, exists_and_left, Option.bind_some, Option.bind_eq_bind, Option.pure_def, wipeR, restR, keepD, Tv.d.injEq, Tv.own.injEq, PyData.int.injEq, PyData.bool.injEq, PyData.tuple.injEq, PyData.list.injEq, PyData.str.injEq, List.cons.injEq, and_true, if_tt, if_ff, Option.bind_none, Option.getD_none, Option.getD_some, Int.sub_zero, Int.zero_add, and_assoc, true_and, exists_const, Nat.reduceAdd, Nat.reduceLT, Nat.reduceSub, Nat.zero_add]
      refine ⟨fun _ => ⟨small64 (by omega), ?_⟩, fun z => (nomatch z)⟩
      rw [take_snoc hp]
      simp [tripD]
    · rintro acc ρ2 ⟨rfl, rfl⟩
      simp only [f_own, List.length_map, List.take_length, r_nil, r_cons, r_set, r_unp, r_par, r_ix1, r_ix2, r_ixp, r_ixe, r_app, r_ext, r_expr, r_ret, r_retv, r_retN, r_if, r_for, r_while, r_pass, r_brk, r_cont, q_sim, q_bin, q_neg, q_cmp, q_isN, q_notN, q_chain, q_and, q_or, q_and1, q_and2, q_or1, q_or2, q_not, q_ite, q_tup, q_lst, q_idx, q_slice, q_rev, q_blt1, q_bltv, q_blt2, q_sortset, q_lrng, q_lc, q_pop, q_index, q_es0, q_es1, q_o0, q_o1, q_c0, q_c1, q_seq, q_rng, q_enum, q_zip, g_name, g_tup, g_t0, g_t1, o_add, o_sub, o_mul, o_fdiv, o_mod, o_pow, f_d, f_nil, c_lt, c_le, c_gt, c_ge, c_eq, c_ne, at0, at1, at2, ix0, ix1, ix2, v_var, v_int, v_str, v_bl, v_non, v_glob, v_add, v_sub, v_neg, v_idx, v_len, onV_d, onV_scr, onW_d, onW_scr, onW_own, simR, sv, frzT, E.sim?, E.var?, SE.var?, Tv.item, Tv.len, PyData.itemsOf, List.map_cons, List.map_nil, List.replicate, List.cons_append, List.nil_append, List.length_cons, List.length_nil, List.set_cons_zero, List.set_cons_succ, List.getElem?_cons_zero, List.getElem?_cons_succ, Option.join_some, Option.some.injEq, Option.map_some, exists_eq', exists_eq, exists_eq_left', exists_eq_left, exists_and_left, Option.bind_some, Option.bind_eq_bind, Option.pure_def, wipeR, restR, keepD, Tv.d.injEq, Tv.own.injEq, PyData.int.injEq, PyData.bool.injEq, PyData.tuple.injEq, PyData.list.injEq, PyData.str.injEq, List.cons.injEq, and_true, if_tt, if_ff, Option.bind_none, Option.getD_none, Option.getD_some, Int.sub_zero, Int.zero_add, and_assoc, true_and, exists_const, Nat.reduceAdd, Nat.reduceLT, Nat.reduceSub, Nat.zero_add]
      refine ⟨by rw [sizeLine_eq]; omega, ?_⟩
      rw [take_snoc hx, List.flatMap_append, List.flatMap_cons, List.flatMap_nil, List.append_nil, trips_sit, List.map_append]
  · rintro ρ2 rfl
    rw [List.take_length]
    exact hD
theorem ok_plays {Γ : Gam} {Φ : Phi} : ∀ xs Q, spPlays xs Q → fsOf Γ Φ 1 7 bPlays xs Q := by
  rintro xs Q ⟨pr, pk, ss, rfl, hP, hq⟩
  refine ⟨rfl, ?_⟩
  rw [bPlays, r_cons]
  simp only [planD, r_nil, r_set, r_unp, r_par, r_ix1, r_ix2, r_ixp, r_ixe, r_app, r_ext, r_expr, r_ret, r_retv, r_retN, r_if, r_for, r_while, r_pass, r_brk, r_cont, q_sim, q_bin, q_neg, q_cmp, q_isN, q_notN, q_chain, q_and, q_or, q_and1, q_and2, q_or1, q_or2, q_not, q_ite, q_tup, q_lst, q_idx, q_slice, q_rev, q_blt1, q_bltv, q_blt2, q_sortset, q_lrng, q_lc, q_pop, q_index, q_es0, q_es1, q_o0, q_o1, q_c0, q_c1, q_seq, q_rng, q_enum, q_zip, g_name, g_tup, g_t0, g_t1, o_add, o_sub, o_mul, o_fdiv, o_mod, o_pow, f_d, f_nil, c_lt, c_le, c_gt, c_ge, c_eq, c_ne, at0, at1, at2, ix0, ix1, ix2, v_var, v_int, v_str, v_bl, v_non, v_glob, v_add, v_sub, v_neg, v_idx, v_len, onV_d, onV_scr, onW_d, onW_scr, onW_own, simR, sv, frzT, E.sim?, E.var?, SE.var?, Tv.item, Tv.len, PyData.itemsOf, List.map_cons, List.map_nil, List.replicate, List.cons_append, List.nil_append, List.length_cons, List.length_nil, List.set_cons_zero, List.set_cons_succ, List.getElem?_cons_zero, List.getElem?_cons_succ, Option.join_some, Option.some.injEq, Option.map_some, exists_eq', exists_eq, exists_eq_left', exists_eq_left, exists_and_left, Option.bind_some, Option.bind_eq_bind, Option.pure_def, wipeR, restR, keepD, Tv.d.injEq, Tv.own.injEq, PyData.int.injEq, PyData.bool.injEq, PyData.tuple.injEq, PyData.list.injEq, PyData.str.injEq, List.cons.injEq, and_true, if_tt, if_ff, Option.bind_none, Option.getD_none, Option.getD_some, Int.sub_zero, Int.zero_add, and_assoc, true_and, exists_const, Nat.reduceAdd, Nat.reduceLT, Nat.reduceSub, Nat.zero_add]
  rw [r_cons]
  simp only [at2, r_nil, r_set, r_unp, r_par, r_ix1, r_ix2, r_ixp, r_ixe, r_app, r_ext, r_expr, r_ret, r_retv, r_retN, r_if, r_for, r_while, r_pass, r_brk, r_cont, q_sim, q_bin, q_neg, q_cmp, q_isN, q_notN, q_chain, q_and, q_or, q_and1, q_and2, q_or1, q_or2, q_not, q_ite, q_tup, q_lst, q_idx, q_slice, q_rev, q_blt1, q_bltv, q_blt2, q_sortset, q_lrng, q_lc, q_pop, q_index, q_es0, q_es1, q_o0, q_o1, q_c0, q_c1, q_seq, q_rng, q_enum, q_zip, g_name, g_tup, g_t0, g_t1, o_add, o_sub, o_mul, o_fdiv, o_mod, o_pow, f_d, f_nil, c_lt, c_le, c_gt, c_ge, c_eq, c_ne, at0, at1, at2, ix0, ix1, ix2, v_var, v_int, v_str, v_bl, v_non, v_glob, v_add, v_sub, v_neg, v_idx, v_len, onV_d, onV_scr, onW_d, onW_scr, onW_own, simR, sv, frzT, E.sim?, E.var?, SE.var?, Tv.item, Tv.len, PyData.itemsOf, List.map_cons, List.map_nil, List.replicate, List.cons_append, List.nil_append, List.length_cons, List.length_nil, List.set_cons_zero, List.set_cons_succ, List.getElem?_cons_zero, List.getElem?_cons_succ, Option.join_some, Option.some.injEq, Option.map_some, exists_eq', exists_eq, exists_eq_left', exists_eq_left, exists_and_left, Option.bind_some, Option.bind_eq_bind, Option.pure_def, wipeR, restR, keepD, Tv.d.injEq, Tv.own.injEq, PyData.int.injEq, PyData.bool.injEq, PyData.tuple.injEq, PyData.list.injEq, PyData.str.injEq, List.cons.injEq, and_true, if_tt, if_ff, Option.bind_none, Option.getD_none, Option.getD_some, Int.sub_zero, Int.zero_add, and_assoc, true_and, exists_const, Nat.reduceAdd, Nat.reduceLT, Nat.reduceSub, Nat.zero_add]
  refine plays_loop hP ?_
  simp only [f_own, r_nil, r_cons, r_set, r_unp, r_par, r_ix1, r_ix2, r_ixp, r_ixe, r_app, r_ext, r_expr, r_ret, r_retv, r_retN, r_if, r_for, r_while, r_pass, r_brk, r_cont, q_sim, q_bin, q_neg, q_cmp, q_isN, q_notN, q_chain, q_and, q_or, q_and1, q_and2, q_or1, q_or2, q_not, q_ite, q_tup, q_lst, q_idx, q_slice, q_rev, q_blt1, q_bltv, q_blt2, q_sortset, q_lrng, q_lc, q_pop, q_index, q_es0, q_es1, q_o0, q_o1, q_c0, q_c1, q_seq, q_rng, q_enum, q_zip, g_name, g_tup, g_t0, g_t1, o_add, o_sub, o_mul, o_fdiv, o_mod, o_pow, f_d, f_nil, c_lt, c_le, c_gt, c_ge, c_eq, c_ne, at0, at1, at2, ix0, ix1, ix2, v_var, v_int, v_str, v_bl, v_non, v_glob, v_add, v_sub, v_neg, v_idx, v_len, onV_d, onV_scr, onW_d, onW_scr, onW_own, simR, sv, frzT, E.sim?, E.var?, SE.var?, Tv.item, Tv.len, PyData.itemsOf, List.map_cons, List.map_nil, List.replicate, List.cons_append, List.nil_append, List.length_cons, List.length_nil, List.set_cons_zero, List.set_cons_succ, List.getElem?_cons_zero, List.getElem?_cons_succ, Option.join_some, Option.some.injEq, Option.map_some, exists_eq', exists_eq, exists_eq_left', exists_eq_left, exists_and_left, Option.bind_some, Option.bind_eq_bind, Option.pure_def, wipeR, restR, keepD, Tv.d.injEq, Tv.own.injEq, PyData.int.injEq, PyData.bool.injEq, PyData.tuple.injEq, PyData.list.injEq, PyData.str.injEq, List.cons.injEq, and_true, if_tt, if_ff, Option.bind_none, Option.getD_none, Option.getD_some, Int.sub_zero, Int.zero_add, and_assoc, true_and, exists_const, Nat.reduceAdd, Nat.reduceLT, Nat.reduceSub, Nat.zero_add]
  refine b_sortedD (trip_sort (trips_all hP.sit)) ?_
  simp only [b_tuple]
  exact hq _
theorem ok_lawPlays {Γ : Gam} {Φ : Phi} : ∀ xs Q, spLawPlays xs Q → fsOf Γ Φ 1 7 bLawPlays xs Q := by
  rintro xs Q ⟨pr, pk, ss, rfl, hP, hq⟩
  refine ⟨rfl, ?_⟩
  rw [bLawPlays, r_cons]
  simp only [planD, r_nil, r_set, r_unp, r_par, r_ix1, r_ix2, r_ixp, r_ixe, r_app, r_ext, r_expr, r_ret, r_retv, r_retN, r_if, r_for, r_while, r_pass, r_brk, r_cont, q_sim, q_bin, q_neg, q_cmp, q_isN, q_notN, q_chain, q_and, q_or, q_and1, q_and2, q_or1, q_or2, q_not, q_ite, q_tup, q_lst, q_idx, q_slice, q_rev, q_blt1, q_bltv, q_blt2, q_sortset, q_lrng, q_lc, q_pop, q_index, q_es0, q_es1, q_o0, q_o1, q_c0, q_c1, q_seq, q_rng, q_enum, q_zip, g_name, g_tup, g_t0, g_t1, o_add, o_sub, o_mul, o_fdiv, o_mod, o_pow, f_d, f_nil, c_lt, c_le, c_gt, c_ge, c_eq, c_ne, at0, at1, at2, ix0, ix1, ix2, v_var, v_int, v_str, v_bl, v_non, v_glob, v_add, v_sub, v_neg, v_idx, v_len, onV_d, onV_scr, onW_d, onW_scr, onW_own, simR, sv, frzT, E.sim?, E.var?, SE.var?, Tv.item, Tv.len, PyData.itemsOf, List.map_cons, List.map_nil, List.replicate, List.cons_append, List.nil_append, List.length_cons, List.length_nil, List.set_cons_zero, List.set_cons_succ, List.getElem?_cons_zero, List.getElem?_cons_succ, Option.join_some, Option.some.injEq, Option.map_some, exists_eq', exists_eq, exists_eq_left', exists_eq_left, exists_and_left, Option.bind_some, Option.bind_eq_bind, Option.pure_def, wipeR, restR, keepD, Tv.d.injEq, Tv.own.injEq, PyData.int.injEq, PyData.bool.injEq, PyData.tuple.injEq, PyData.list.injEq, PyData.str.injEq, List.cons.injEq, and_true, if_tt, if_ff, Option.bind_none, Option.getD_none, Option.getD_some, Int.sub_zero, Int.zero_add, and_assoc, true_and, exists_const, Nat.reduceAdd, Nat.reduceLT, Nat.reduceSub, Nat.zero_add]
  rw [r_cons]
  simp only [at2, r_nil, r_set, r_unp, r_par, r_ix1, r_ix2, r_ixp, r_ixe, r_app, r_ext, r_expr, r_ret, r_retv, r_retN, r_if, r_for, r_while, r_pass, r_brk, r_cont, q_sim, q_bin, q_neg, q_cmp, q_isN, q_notN, q_chain, q_and, q_or, q_and1, q_and2, q_or1, q_or2, q_not, q_ite, q_tup, q_lst, q_idx, q_slice, q_rev, q_blt1, q_bltv, q_blt2, q_sortset, q_lrng, q_lc, q_pop, q_index, q_es0, q_es1, q_o0, q_o1, q_c0, q_c1, q_seq, q_rng, q_enum, q_zip, g_name, g_tup, g_t0, g_t1, o_add, o_sub, o_mul, o_fdiv, o_mod, o_pow, f_d, f_nil, c_lt, c_le, c_gt, c_ge, c_eq, c_ne, at0, at1, at2, ix0, ix1, ix2, v_var, v_int, v_str, v_bl, v_non, v_glob, v_add, v_sub, v_neg, v_idx, v_len, onV_d, onV_scr, onW_d, onW_scr, onW_own, simR, sv, frzT, E.sim?, E.var?, SE.var?, Tv.item, Tv.len, PyData.itemsOf, List.map_cons, List.map_nil, List.replicate, List.cons_append, List.nil_append, List.length_cons, List.length_nil, List.set_cons_zero, List.set_cons_succ, List.getElem?_cons_zero, List.getElem?_cons_succ, Option.join_some, Option.some.injEq, Option.map_some, exists_eq', exists_eq, exists_eq_left', exists_eq_left, exists_and_left, Option.bind_some, Option.bind_eq_bind, Option.pure_def, wipeR, restR, keepD, Tv.d.injEq, Tv.own.injEq, PyData.int.injEq, PyData.bool.injEq, PyData.tuple.injEq, PyData.list.injEq, PyData.str.injEq, List.cons.injEq, and_true, if_tt, if_ff, Option.bind_none, Option.getD_none, Option.getD_some, Int.sub_zero, Int.zero_add, and_assoc, true_and, exists_const, Nat.reduceAdd, Nat.reduceLT, Nat.reduceSub, Nat.zero_add]
  refine plays_loop hP ?_
  simp only [f_own, r_nil, r_cons, r_set, r_unp, r_par, r_ix1, r_ix2, r_ixp, r_ixe, r_app, r_ext, r_expr, r_ret, r_retv, r_retN, r_if, r_for, r_while, r_pass, r_brk, r_cont, q_sim, q_bin, q_neg, q_cmp, q_isN, q_notN, q_chain, q_and, q_or, q_and1, q_and2, q_or1, q_or2, q_not, q_ite, q_tup, q_lst, q_idx, q_slice, q_rev, q_blt1, q_bltv, q_blt2, q_sortset, q_lrng, q_lc, q_pop, q_index, q_es0, q_es1, q_o0, q_o1, q_c0, q_c1, q_seq, q_rng, q_enum, q_zip, g_name, g_tup, g_t0, g_t1, o_add, o_sub, o_mul, o_fdiv, o_mod, o_pow, f_d, f_nil, c_lt, c_le, c_gt, c_ge, c_eq, c_ne, at0, at1, at2, ix0, ix1, ix2, v_var, v_int, v_str, v_bl, v_non, v_glob, v_add, v_sub, v_neg, v_idx, v_len, onV_d, onV_scr, onW_d, onW_scr, onW_own, simR, sv, frzT, E.sim?, E.var?, SE.var?, Tv.item, Tv.len, PyData.itemsOf, List.map_cons, List.map_nil, List.replicate, List.cons_append, List.nil_append, List.length_cons, List.length_nil, List.set_cons_zero, List.set_cons_succ, List.getElem?_cons_zero, List.getElem?_cons_succ, Option.join_some, Option.some.injEq, Option.map_some, exists_eq', exists_eq, exists_eq_left', exists_eq_left, exists_and_left, Option.bind_some, Option.bind_eq_bind, Option.pure_def, wipeR, restR, keepD, Tv.d.injEq, Tv.own.injEq, PyData.int.injEq, PyData.bool.injEq, PyData.tuple.injEq, PyData.list.injEq, PyData.str.injEq, List.cons.injEq, and_true, if_tt, if_ff, Option.bind_none, Option.getD_none, Option.getD_some, Int.sub_zero, Int.zero_add, and_assoc, true_and, exists_const, Nat.reduceAdd, Nat.reduceLT, Nat.reduceSub, Nat.zero_add]
  refine b_sortedD (trip_sort (trips_all hP.sit)) ?_
  exact hq _
end Tr
set_option Elab.async false
set_option linter.all false
set_option maxRecDepth 100000
set_option maxHeartbeats 4000000
set_option exponentiation.threshold 3000
namespace Tr
open PySem PySem.Spec PyProof.Rows L2
def bDealt : SL := (.cons (.ret (.blt1 .tuple (.lc (.bin .sub (.bin .add (.sim (.idx (.var 2) (.var 3))) (.sim (.idx (.var 1) (.var 4)))) (.sim (.idx (.var 1) (.var 5)))) (.tup (.cons (.name 3) (.cons (.name 4) (.cons (.name 5) .nil)))) (.seq (.call "plays" (.cons (.sim (.var 0)) .nil))) .non [3, 4, 5])))
  .nil)
def fePlays : FE := ⟨["plan"], [["plan"]], none, spPlays⟩
def atZ (xs : List Int) (p : Int) : Int := (xs[p.toNat]?).getD 0
theorem at_ints {xs : List Int} {p : Int} (h0 : 0 ≤ p) (h1 : p < xs.length) : atI (xs.map PyData.int) p = some (.int (atZ xs p)) := by
  have hp : p.toNat < xs.length := by omega
  have e := atI_nat (xs := xs.map PyData.int) (j := p.toNat) (v := .int (atZ xs p)) (by
    rw [List.getElem?_map, List.getElem?_eq_getElem hp]
    unfold atZ
    rw [List.getElem?_eq_getElem hp]
    rfl)
  rwa [Int.toNat_of_nonneg h0] at e
/-- the result of a play -/
def gainI (lk st : List Int) : PyData → Int
  | .tuple [.int p, .int n, .int e] => atZ lk p + atZ st n - atZ st e
  | _ => 0
def dealtL (lk st : List Int) (ss : List PyData) : List Int := (playsL ss).map (gainI lk st)
def spDealt : FS := fun xs Q => ∃ pr pk ss, ∃ st lk : List Int, xs = [.d (planD pr pk ss), .d (.tuple (st.map .int)), .d (.tuple (lk.map .int))] ∧ PlanOk pr pk ss ∧ (st.length : Int) = pr ∧ (lk.length : Int) = pk ∧ ∀ rest, Q (.d (.tuple ((dealtL lk st ss).map .int))) rest
theorem ok_dealt {Γ : Gam} {Φ : Phi} (hP : Φ "plays" = some fePlays) : ∀ xs Q, spDealt xs Q → fsOf Γ Φ 3 6 bDealt xs Q := by
  rintro xs Q ⟨pr, pk, ss, st, lk, rfl, hplan, hst, hlk, hq⟩
  refine ⟨rfl, ?_⟩
  rw [bDealt, r_cons]
  simp only [q_call hP rfl, args1, fePlays, r_nil, r_set, r_unp, r_par, r_ix1, r_ix2, r_ixp, r_ixe, r_app, r_ext, r_expr, r_ret, r_retv, r_retN, r_if, r_for, r_while, r_pass, r_brk, r_cont, q_sim, q_bin, q_neg, q_cmp, q_isN, q_notN, q_chain, q_and, q_or, q_and1, q_and2, q_or1, q_or2, q_not, q_ite, q_tup, q_lst, q_idx, q_slice, q_rev, q_blt1, q_bltv, q_blt2, q_sortset, q_lrng, q_lc, q_pop, q_index, q_es0, q_es1, q_o0, q_o1, q_c0, q_c1, q_seq, q_rng, q_enum, q_zip, g_name, g_tup, g_t0, g_t1, o_add, o_sub, o_mul, o_fdiv, o_mod, o_pow, f_d, f_nil, c_lt, c_le, c_gt, c_ge, c_eq, c_ne, at0, at1, at2, ix0, ix1, ix2, v_var, v_int, v_str, v_bl, v_non, v_glob, v_add, v_sub, v_neg, v_idx, v_len, onV_d, onV_scr, onW_d, onW_scr, onW_own, simR, sv, frzT, E.sim?, E.var?, SE.var?, Tv.item, Tv.len, PyData.itemsOf, List.map_cons, List.map_nil, List.replicate, List.cons_append, List.nil_append, List.length_cons, List.length_nil, List.set_cons_zero, List.set_cons_succ, List.getElem?_cons_zero, List.getElem?_cons_succ, Option.join_some, Option.some.injEq, Option.map_some, exists_eq', exists_eq, exists_eq_left', exists_eq_left, exists_and_left, Option.bind_some, Option.bind_eq_bind, Option.pure_def, wipeR, restR, keepD, Tv.d.injEq, Tv.own.injEq, PyData.int.injEq, PyData.bool.injEq, PyData.tuple.injEq, PyData.list.injEq, PyData.str.injEq, List.cons.injEq, and_true, if_tt, if_ff, Option.bind_none, Option.getD_none, Option.getD_some, Int.sub_zero, Int.zero_add, and_assoc, true_and, exists_const, Nat.reduceAdd, Nat.reduceLT, Nat.reduceSub, Nat.zero_add]
  refine ⟨pr, pk, ss, rfl, hplan, fun rest => ?_⟩
  simp only [r_nil, r_set, r_unp, r_par, r_ix1, r_ix2, r_ixp, r_ixe, r_app, r_ext, r_expr, r_ret, r_retv, r_retN, r_if, r_for, r_while, r_pass, r_brk, r_cont, q_sim, q_bin, q_neg, q_cmp, q_isN, q_notN, q_chain, q_and, q_or, q_and1, q_and2, q_or1, q_or2, q_not, q_ite, q_tup, q_lst, q_idx, q_slice, q_rev, q_blt1, q_bltv, q_blt2, q_sortset, q_lrng, q_lc, q_pop, q_index, q_es0, q_es1, q_o0, q_o1, q_c0, q_c1, q_seq, q_rng, q_enum, q_zip, g_name, g_tup, g_t0, g_t1, o_add, o_sub, o_mul, o_fdiv, o_mod, o_pow, f_d, f_nil, c_lt, c_le, c_gt, c_ge, c_eq, c_ne, at0, at1, at2, ix0, ix1, ix2, v_var, v_int, v_str, v_bl, v_non, v_glob, v_add, v_sub, v_neg, v_idx, v_len, onV_d, onV_scr, onW_d, onW_scr, onW_own, simR, sv, frzT, E.sim?, E.var?, SE.var?, Tv.item, Tv.len, PyData.itemsOf, List.map_cons, List.map_nil, List.replicate, List.cons_append, List.nil_append, List.length_cons, List.length_nil, List.set_cons_zero, List.set_cons_succ, List.getElem?_cons_zero, List.getElem?_cons_succ, Option.join_some, Option.some.injEq, Option.map_some, exists_eq', exists_eq, exists_eq_left', exists_eq_left, exists_and_left, Option.bind_some, Option.bind_eq_bind, Option.pure_def, wipeR, restR, keepD, Tv.d.injEq, Tv.own.injEq, PyData.int.injEq, PyData.bool.injEq, PyData.tuple.injEq, PyData.list.injEq, PyData.str.injEq, List.cons.injEq, and_true, if_tt, if_ff, Option.bind_none, Option.getD_none, Option.getD_some, Int.sub_zero, Int.zero_add, and_assoc, true_and, exists_const, Nat.reduceAdd, Nat.reduceLT, Nat.reduceSub, Nat.zero_add]
  have hall := plays_all hplan
  have hlen := plays_len hplan
  unfold dealtL at hq
  generalize playsL ss = pl at hall hlen hq ⊢
  refine ⟨fun j acc ρ => acc = (((pl.take j).map (gainI lk st)).map PyData.int).map Tv.d ∧ ρ = [some (.d (planD pr pk ss)), some (.d (.tuple (st.map .int))), some (.d (.tuple (lk.map .int))), none, none, none], ⟨rfl, rfl⟩, ?_, ?_⟩
  · rintro j y acc ρ2 hy ⟨rfl, rfl⟩
    have hj := (List.getElem?_eq_some_iff.mp hy).1
    obtain ⟨p, n, e, rfl, b1, b2, b3, b4, b5, b6⟩ := hall y (List.mem_of_getElem? hy)
    simp only [tripD, at_ints (xs := lk) b1 (by omega), at_ints (xs := st) b3 (by omega), at_ints (xs := st) b5 (by omega), Option.map_some, List.length_map, List.length_take, r_nil, r_cons, r_set, r_unp, r_par, r_ix1, r_ix2, r_ixp, r_ixe, r_app, r_ext, r_expr, r_ret, r_retv, r_retN, r_if, r_for, r_while, r_pass, r_brk, r_cont, q_sim, q_bin, q_neg, q_cmp, q_isN, q_notN, q_chain, q_and, q_or, q_and1, q_and2, q_or1, q_or2, q_not, q_ite, q_tup, q_lst, q_idx, q_slice, q_rev, q_blt1, q_bltv, q_blt2, q_sortset, q_lrng, q_lc, q_pop, q_index, q_es0, q_es1, q_o0, q_o1, q_c0, q_c1, q_seq, q_rng, q_enum, q_zip, g_name, g_tup, g_t0, g_t1, o_add, o_sub, o_mul, o_fdiv, o_mod, o_pow, f_d, f_nil, c_lt, c_le, c_gt, c_ge, c_eq, c_ne, at0, at1, at2, ix0, ix1, ix2, v_var, v_int, v_str, v_bl, v_non, v_glob, v_add, v_sub, v_neg, v_idx, v_len, onV_d, onV_scr, onW_d, onW_scr, onW_own, simR, sv, frzT, E.sim?, E.var?, SE.var?, Tv.item, Tv.len, PyData.itemsOf, List.map_cons, List.map_nil, List.replicate, List.cons_append, List.nil_append, List.length_cons, List.length_nil, List.set_cons_zero, List.set_cons_succ, List.getElem?_cons_zero, List.getElem?_cons_succ, Option.join_some, Option.some.injEq, Option.map_some, exists_eq', exists_eq, exists_eq_left', exists_eq_left, exists_and_left, Option.bind_some, Option.bind_eq_bind, Option.pure_def, wipeR, restR, keepD, Tv.d.injEq, Tv.own.injEq, PyData.int.injEq, PyData.bool.injEq, PyData.tuple.injEq, PyData.list.injEq, PyData.str.injEq, List.cons.injEq, and_true, if_tt, if_ff, Option.bind_none, Option.getD_none, Option.getD_some, Int.sub_zero, Int.zero_add, and_assoc, true_and, exists_const, Nat.reduceAdd, Nat.reduceLT, Nat.reduceSub, Nat.zero_add]
    refine ⟨fun _ => ⟨small64 (by omega), ?_⟩, fun z => (nomatch z)⟩
    rw [take_snoc hy]
    simp [tripD, gainI]
  · rintro acc ρ2 ⟨rfl, rfl⟩
    simp only [b_tuple, List.take_length, r_nil, r_cons, r_set, r_unp, r_par, r_ix1, r_ix2, r_ixp, r_ixe, r_app, r_ext, r_expr, r_ret, r_retv, r_retN, r_if, r_for, r_while, r_pass, r_brk, r_cont, q_sim, q_bin, q_neg, q_cmp, q_isN, q_notN, q_chain, q_and, q_or, q_and1, q_and2, q_or1, q_or2, q_not, q_ite, q_tup, q_lst, q_idx, q_slice, q_rev, q_blt1, q_bltv, q_blt2, q_sortset, q_lrng, q_lc, q_pop, q_index, q_es0, q_es1, q_o0, q_o1, q_c0, q_c1, q_seq, q_rng, q_enum, q_zip, g_name, g_tup, g_t0, g_t1, o_add, o_sub, o_mul, o_fdiv, o_mod, o_pow, f_d, f_nil, c_lt, c_le, c_gt, c_ge, c_eq, c_ne, at0, at1, at2, ix0, ix1, ix2, v_var, v_int, v_str, v_bl, v_non, v_glob, v_add, v_sub, v_neg, v_idx, v_len, onV_d, onV_scr, onW_d, onW_scr, onW_own, simR, sv, frzT, E.sim?, E.var?, SE.var?, Tv.item, Tv.len, PyData.itemsOf, List.map_cons, List.map_nil, List.replicate, List.cons_append, List.nil_append, List.length_cons, List.length_nil, List.set_cons_zero, List.set_cons_succ, List.getElem?_cons_zero, List.getElem?_cons_succ, Option.join_some, Option.some.injEq, Option.map_some, exists_eq', exists_eq, exists_eq_left', exists_eq_left, exists_and_left, Option.bind_some, Option.bind_eq_bind, Option.pure_def, wipeR, restR, keepD, Tv.d.injEq, Tv.own.injEq, PyData.int.injEq, PyData.bool.injEq, PyData.tuple.injEq, PyData.list.injEq, PyData.str.injEq, List.cons.injEq, and_true, if_tt, if_ff, Option.bind_none, Option.getD_none, Option.getD_some, Int.sub_zero, Int.zero_add, and_assoc, true_and, exists_const, Nat.reduceAdd, Nat.reduceLT, Nat.reduceSub, Nat.zero_add]
    exact hq _
def bLaw06 : SL := (.cons (.set 1 (.call "_law_deck" (.cons (.sim (.var 0)) .nil)))
  (.cons (.for_ (.name 2) (.rng .non (.sim (.int 10)))
  (.cons (.set 3 (.call "_law_plan" (.cons (.sim (.var 1)) (.cons (.ite (.cmp .lt (.sim (.var 2)) (.sim (.int 3))) (.sim (.int 10)) (.sim (.int 6))) .nil))))
  (.cons (.set 4 (.call "_law_pick" (.cons (.sim (.var 1)) (.cons (.lst (.cons (.sim (.int 2)) (.cons (.sim (.int 50)) (.cons (.bin .pow (.sim (.int 10)) (.sim (.int 40))) .nil)))) .nil))))
  (.cons (.set 5 (.blt1 .tuple (.lc (.bin .sub (.call "_law_take" (.cons (.sim (.var 1)) (.cons (.bin .add (.bin .mul (.sim (.int 2)) (.sim (.var 4))) (.sim (.int 1))) .nil))) (.sim (.var 4))) (.name 9) (.rng .non (.sim (.idx (.var 3) (.int 0)))) .non [9])))
  (.cons (.set 6 (.blt1 .tuple (.lc (.bin .sub (.call "_law_take" (.cons (.sim (.var 1)) (.cons (.bin .add (.bin .mul (.sim (.int 2)) (.sim (.var 4))) (.sim (.int 1))) .nil))) (.sim (.var 4))) (.name 10) (.rng .non (.sim (.idx (.var 3) (.int 1)))) .non [10])))
  (.cons (.par [7, 8] (.cons (.bltv .repr (.lst (.cons (.sim (.var 3)) (.cons (.sim (.var 5)) (.cons (.sim (.var 6)) .nil))))) (.cons (.lc (.bin .sub (.bin .add (.sim (.idx (.var 6) (.var 10))) (.sim (.idx (.var 5) (.var 11)))) (.sim (.idx (.var 5) (.var 12)))) (.tup (.cons (.name 10) (.cons (.name 11) (.cons (.name 12) .nil)))) (.seq (.call "_law_plays" (.cons (.sim (.var 3)) .nil))) .non [10, 11, 12]) .nil)))
  (.cons (.ite (.cmp .ne (.bltv .repr (.lst (.cons (.call "dealt" (.cons (.sim (.var 3)) (.cons (.sim (.var 5)) (.cons (.sim (.var 6)) .nil)))) (.cons (.callK "dealt" ["luck", "strengths", "plan"] (.cons (.sim (.var 6)) (.cons (.sim (.var 5)) (.cons (.sim (.var 3)) .nil)))) .nil)))) (.bltv .repr (.bin .mul (.lst (.cons (.blt1 .tuple (.sim (.var 8))) .nil)) (.sim (.int 2)))))
  (.cons (.ret (.sim (.bl false)))
  .nil)
  .nil)
  (.cons (.ite (.cmp .ne (.bltv .repr (.lst (.cons (.sim (.var 3)) (.cons (.sim (.var 5)) (.cons (.sim (.var 6)) .nil))))) (.sim (.var 7)))
  (.cons (.ret (.sim (.bl false)))
  .nil)
  .nil)
  .nil)))))))
  [2, 3, 4, 5, 6, 7, 8])
  (.cons (.ret (.sim (.bl true)))
  .nil)))
def fePlan3 : FE := ⟨["_law_deck_here", "_law_most"], [], some 0, spPlan3⟩
def feLawPlays : FE := ⟨["_law_plan_here"], [], none, spLawPlays⟩
def feDealt : FE := ⟨["plan", "strengths", "luck"], [["luck", "strengths", "plan"]], none, spDealt⟩
theorem nic_sit {pr pk : Int} {s : PyData} (b : Bool) (h : Sit pr pk s) (hp : pr ≤ 1000) (hk : pk ≤ 1000) : nic b s = true ∧ big s ≤ 2300 := by
  obtain ⟨t, n, e, ps, rfl, a1, a2, a3, a4, a5, a6, a7, a8⟩ := h
  have lim : ∀ z : Int, 0 ≤ z → z ≤ 1000 → decide (z.natAbs < 10 ^ 60) = true := fun z z0 z1 => decide_eq_true (Nat.lt_of_le_of_lt (show z.natAbs ≤ 1000 by omega) (by decide))
  constructor
  · show (decide (t.natAbs < 10 ^ 60) && (decide (n.natAbs < 10 ^ 60) && (decide (e.natAbs < 10 ^ 60) && (nicA b (ps.map .int) && true)))) = true
    rw [lim t a1 (by omega), lim n a3 (by omega), lim e a5 (by omega), nic_ints b ps fun p hp => Nat.lt_of_le_of_lt (show p.natAbs ≤ 1000 by have := a7 p hp; omega) (by decide)]
    rfl
  · show 201 + 1 + (201 + 1 + (201 + 1 + (bigA (ps.map .int) + 1 + 0))) ≤ 2300
    rw [big_ints]
    omega
theorem nic_plan {pr pk : Int} {ss : List PyData} (b : Bool) (h : PlanOk pr pk ss) : nic b (planD pr pk ss) = true ∧ big (planD pr pk ss) ≤ 140000 ∧ shal 29 (planD pr pk ss) = true := by
  have h1 := h.p2
  have h2 := h.k2
  have h3 := h.p1
  have h4 := h.k1
  have h5 := h.len
  have lim : ∀ z : Int, 0 ≤ z → z ≤ 1000 → decide (z.natAbs < 10 ^ 60) = true := fun z z0 z1 => decide_eq_true (Nat.lt_of_le_of_lt (show z.natAbs ≤ 1000 by omega) (by decide))
  refine ⟨?_, ?_, ?_⟩
  · show (decide (pr.natAbs < 10 ^ 60) && (decide (pk.natAbs < 10 ^ 60) && (nicA b ss && true))) = true
    rw [lim pr (by omega) (by omega), lim pk (by omega) (by omega), nic_all b ss fun x hx => (nic_sit b (h.sit x hx) (by omega) (by omega)).1]
    rfl
  · have := big_all 2300 ss fun x hx => (nic_sit b (h.sit x hx) (by omega) (by omega)).2
    show 201 + 1 + (201 + 1 + (bigA ss + 1 + 0)) ≤ 140000
    have e : (2300 + 1) * ss.length ≤ (2300 + 1) * 60 := Nat.mul_le_mul_left _ h5
    omega
  · show (shal 28 (.int pr) && (shal 28 (.int pk) && (ss.all (shal 27) && true))) = true
    rw [List.all_eq_true.mpr fun x hx => shal_sit (h.sit x hx) 25]
    rfl
theorem b_repr {x : Tv} {d : PyData} {xs : List PyData} {R : Tv → Prop} (h1 : x.frz = some d) (h2 : PyData.itemsOf d = some xs) (h3 : ShowOk d) (q : R (.d (.str d.shown))) : bltO .repr [x] R := ⟨x, d, xs, rfl, h1, h2, h3, q⟩
theorem fo3 {a b c : PyData} : (Tv.own [.d a, .d b, .d c]).frz = some (.list [a, b, c]) := rfl
theorem fo1 {a : PyData} : (Tv.own [.d a]).frz = some (.list [a]) := rfl
theorem args33 {x y z : PyData} : argTs [.d x, .d y, .d z] = some [.d x, .d y, .d z] := rfl
theorem atZ_le {B : Nat} {xs : List Int} (h : ∀ t ∈ xs, t.natAbs ≤ B) (p : Int) : (atZ xs p).natAbs ≤ B := by
  unfold atZ
  cases e : xs[p.toNat]? with
  | none => exact Nat.zero_le _
  | some t => exact h t (List.mem_of_getElem? e)
theorem gain_le {pr pk : Int} {ss : List PyData} {lk st : List Int} (hP : PlanOk pr pk ss) (h1 : ∀ t ∈ lk, t.natAbs ≤ 10 ^ 40) (h2 : ∀ t ∈ st, t.natAbs ≤ 10 ^ 40) : ∀ g ∈ dealtL lk st ss, g.natAbs < 10 ^ 60 := fun g hg => by
  obtain ⟨x, hx, rfl⟩ := List.mem_map.mp hg
  obtain ⟨p, n, e, rfl, _⟩ := plays_all hP x hx
  have a1 := atZ_le h1 p
  have a2 := atZ_le h2 n
  have a3 := atZ_le h2 e
  show (atZ lk p + atZ st n - atZ st e).natAbs < 10 ^ 60
  refine Nat.lt_of_le_of_lt (m := 3 * 10 ^ 40) ?_ (by decide)
  omega
theorem ok_law06 {Γ : Gam} {Φ : Phi} (hD : Φ "_law_deck" = some feDeck3) (hT : Φ "_law_take" = some feTake3) (hK : Φ "_law_pick" = some fePick3) (hN : Φ "_law_plan" = some fePlan3) (hY : Φ "_law_plays" = some feLawPlays) (hE : Φ "dealt" = some feDealt) :
    ∀ xs Q, spLaw xs Q → fsOf Γ Φ 1 13 bLaw06 xs Q := by
  rintro xs Q ⟨ns, rfl, hq⟩
  refine ⟨rfl, ?_⟩
  rw [bLaw06, r_cons]
  simp only [q_call hD rfl, argTs, argT, feDeck3, r_nil, r_set, r_unp, r_par, r_ix1, r_ix2, r_ixp, r_ixe, r_app, r_ext, r_expr, r_ret, r_retv, r_retN, r_if, r_for, r_while, r_pass, r_brk, r_cont, q_sim, q_bin, q_neg, q_cmp, q_isN, q_notN, q_chain, q_and, q_or, q_and1, q_and2, q_or1, q_or2, q_not, q_ite, q_tup, q_lst, q_idx, q_slice, q_rev, q_blt1, q_bltv, q_blt2, q_sortset, q_lrng, q_lc, q_pop, q_index, q_es0, q_es1, q_o0, q_o1, q_c0, q_c1, q_seq, q_rng, q_enum, q_zip, g_name, g_tup, g_t0, g_t1, o_add, o_sub, o_mul, o_fdiv, o_mod, o_pow, f_d, f_nil, c_lt, c_le, c_gt, c_ge, c_eq, c_ne, at0, at1, at2, ix0, ix1, ix2, v_var, v_int, v_str, v_bl, v_non, v_glob, v_add, v_sub, v_neg, v_idx, v_len, onV_d, onV_scr, onW_d, onW_scr, onW_own, simR, sv, frzT, E.sim?, E.var?, SE.var?, Tv.item, Tv.len, PyData.itemsOf, List.map_cons, List.map_nil, List.replicate, List.cons_append, List.nil_append, List.length_cons, List.length_nil, List.set_cons_zero, List.set_cons_succ, List.getElem?_cons_zero, List.getElem?_cons_succ, Option.join_some, Option.some.injEq, Option.map_some, exists_eq', exists_eq, exists_eq_left', exists_eq_left, exists_and_left, Option.bind_some, Option.bind_eq_bind, Option.pure_def, wipeR, restR, keepD, Tv.d.injEq, Tv.own.injEq, PyData.int.injEq, PyData.bool.injEq, PyData.tuple.injEq, PyData.list.injEq, PyData.str.injEq, List.cons.injEq, and_true, if_tt, if_ff, Option.bind_none, Option.getD_none, Option.getD_some, Int.sub_zero, Int.zero_add, and_assoc, true_and, exists_const, Nat.reduceAdd, Nat.reduceLT, Nat.reduceSub, Nat.zero_add]
  refine ⟨ns, rfl, fun a b c rest => ?_⟩
  simp only [r_nil, r_set, r_unp, r_par, r_ix1, r_ix2, r_ixp, r_ixe, r_app, r_ext, r_expr, r_ret, r_retv, r_retN, r_if, r_for, r_while, r_pass, r_brk, r_cont, q_sim, q_bin, q_neg, q_cmp, q_isN, q_notN, q_chain, q_and, q_or, q_and1, q_and2, q_or1, q_or2, q_not, q_ite, q_tup, q_lst, q_idx, q_slice, q_rev, q_blt1, q_bltv, q_blt2, q_sortset, q_lrng, q_lc, q_pop, q_index, q_es0, q_es1, q_o0, q_o1, q_c0, q_c1, q_seq, q_rng, q_enum, q_zip, g_name, g_tup, g_t0, g_t1, o_add, o_sub, o_mul, o_fdiv, o_mod, o_pow, f_d, f_nil, c_lt, c_le, c_gt, c_ge, c_eq, c_ne, at0, at1, at2, ix0, ix1, ix2, v_var, v_int, v_str, v_bl, v_non, v_glob, v_add, v_sub, v_neg, v_idx, v_len, onV_d, onV_scr, onW_d, onW_scr, onW_own, simR, sv, frzT, E.sim?, E.var?, SE.var?, Tv.item, Tv.len, PyData.itemsOf, List.map_cons, List.map_nil, List.replicate, List.cons_append, List.nil_append, List.length_cons, List.length_nil, List.set_cons_zero, List.set_cons_succ, List.getElem?_cons_zero, List.getElem?_cons_succ, Option.join_some, Option.some.injEq, Option.map_some, exists_eq', exists_eq, exists_eq_left', exists_eq_left, exists_and_left, Option.bind_some, Option.bind_eq_bind, Option.pure_def, wipeR, restR, keepD, Tv.d.injEq, Tv.own.injEq, PyData.int.injEq, PyData.bool.injEq, PyData.tuple.injEq, PyData.list.injEq, PyData.str.injEq, List.cons.injEq, and_true, if_tt, if_ff, Option.bind_none, Option.getD_none, Option.getD_some, Int.sub_zero, Int.zero_add, and_assoc, true_and, exists_const, Nat.reduceAdd, Nat.reduceLT, Nat.reduceSub, Nat.zero_add]
  rw [r_cons]
  simp only [r_nil, r_set, r_unp, r_par, r_ix1, r_ix2, r_ixp, r_ixe, r_app, r_ext, r_expr, r_ret, r_retv, r_retN, r_if, r_for, r_while, r_pass, r_brk, r_cont, q_sim, q_bin, q_neg, q_cmp, q_isN, q_notN, q_chain, q_and, q_or, q_and1, q_and2, q_or1, q_or2, q_not, q_ite, q_tup, q_lst, q_idx, q_slice, q_rev, q_blt1, q_bltv, q_blt2, q_sortset, q_lrng, q_lc, q_pop, q_index, q_es0, q_es1, q_o0, q_o1, q_c0, q_c1, q_seq, q_rng, q_enum, q_zip, g_name, g_tup, g_t0, g_t1, o_add, o_sub, o_mul, o_fdiv, o_mod, o_pow, f_d, f_nil, c_lt, c_le, c_gt, c_ge, c_eq, c_ne, at0, at1, at2, ix0, ix1, ix2, v_var, v_int, v_str, v_bl, v_non, v_glob, v_add, v_sub, v_neg, v_idx, v_len, onV_d, onV_scr, onW_d, onW_scr, onW_own, simR, sv, frzT, E.sim?, E.var?, SE.var?, Tv.item, Tv.len, PyData.itemsOf, List.map_cons, List.map_nil, List.replicate, List.cons_append, List.nil_append, List.length_cons, List.length_nil, List.set_cons_zero, List.set_cons_succ, List.getElem?_cons_zero, List.getElem?_cons_succ, Option.join_some, Option.some.injEq, Option.map_some, exists_eq', exists_eq, exists_eq_left', exists_eq_left, exists_and_left, Option.bind_some, Option.bind_eq_bind, Option.pure_def, wipeR, restR, keepD, Tv.d.injEq, Tv.own.injEq, PyData.int.injEq, PyData.bool.injEq, PyData.tuple.injEq, PyData.list.injEq, PyData.str.injEq, List.cons.injEq, and_true, if_tt, if_ff, Option.bind_none, Option.getD_none, Option.getD_some, Int.sub_zero, Int.zero_add, and_assoc, true_and, exists_const, Nat.reduceAdd, Nat.reduceLT, Nat.reduceSub, Nat.zero_add]
  refine ⟨by decide, by decide, by decide, by decide, fun k ρ => ∃ a b c, ρ = [some (.scr ns), some (deck a b c), none, none, none, none, none, none, none, none, none, none, none], ⟨a, b, c, rfl⟩, ?_, ?_⟩
  · rintro k x ρ2 hx ⟨a, b, c, rfl⟩
    have hk := (List.getElem?_eq_some_iff.mp hx).1
    simp only [List.length_map, List.length_range] at hk
    simp only [List.getElem?_map, List.getElem?_range hk, Option.map_some, Option.some.injEq] at hx
    subst hx
    simp only [r_nil, r_set, r_unp, r_par, r_ix1, r_ix2, r_ixp, r_ixe, r_app, r_ext, r_expr, r_ret, r_retv, r_retN, r_if, r_for, r_while, r_pass, r_brk, r_cont, q_sim, q_bin, q_neg, q_cmp, q_isN, q_notN, q_chain, q_and, q_or, q_and1, q_and2, q_or1, q_or2, q_not, q_ite, q_tup, q_lst, q_idx, q_slice, q_rev, q_blt1, q_bltv, q_blt2, q_sortset, q_lrng, q_lc, q_pop, q_index, q_es0, q_es1, q_o0, q_o1, q_c0, q_c1, q_seq, q_rng, q_enum, q_zip, g_name, g_tup, g_t0, g_t1, o_add, o_sub, o_mul, o_fdiv, o_mod, o_pow, f_d, f_nil, c_lt, c_le, c_gt, c_ge, c_eq, c_ne, at0, at1, at2, ix0, ix1, ix2, v_var, v_int, v_str, v_bl, v_non, v_glob, v_add, v_sub, v_neg, v_idx, v_len, onV_d, onV_scr, onW_d, onW_scr, onW_own, simR, sv, frzT, E.sim?, E.var?, SE.var?, Tv.item, Tv.len, PyData.itemsOf, List.map_cons, List.map_nil, List.replicate, List.cons_append, List.nil_append, List.length_cons, List.length_nil, List.set_cons_zero, List.set_cons_succ, List.getElem?_cons_zero, List.getElem?_cons_succ, Option.join_some, Option.some.injEq, Option.map_some, exists_eq', exists_eq, exists_eq_left', exists_eq_left, exists_and_left, Option.bind_some, Option.bind_eq_bind, Option.pure_def, wipeR, restR, keepD, Tv.d.injEq, Tv.own.injEq, PyData.int.injEq, PyData.bool.injEq, PyData.tuple.injEq, PyData.list.injEq, PyData.str.injEq, List.cons.injEq, and_true, if_tt, if_ff, Option.bind_none, Option.getD_none, Option.getD_some, Int.sub_zero, Int.zero_add, and_assoc, true_and, exists_const, Nat.reduceAdd, Nat.reduceLT, Nat.reduceSub, Nat.zero_add]
    rw [r_cons]
    simp only [q_callO hN rfl, args1, fePlan3, r_nil, r_set, r_unp, r_par, r_ix1, r_ix2, r_ixp, r_ixe, r_app, r_ext, r_expr, r_ret, r_retv, r_retN, r_if, r_for, r_while, r_pass, r_brk, r_cont, q_sim, q_bin, q_neg, q_cmp, q_isN, q_notN, q_chain, q_and, q_or, q_and1, q_and2, q_or1, q_or2, q_not, q_ite, q_tup, q_lst, q_idx, q_slice, q_rev, q_blt1, q_bltv, q_blt2, q_sortset, q_lrng, q_lc, q_pop, q_index, q_es0, q_es1, q_o0, q_o1, q_c0, q_c1, q_seq, q_rng, q_enum, q_zip, g_name, g_tup, g_t0, g_t1, o_add, o_sub, o_mul, o_fdiv, o_mod, o_pow, f_d, f_nil, c_lt, c_le, c_gt, c_ge, c_eq, c_ne, at0, at1, at2, ix0, ix1, ix2, v_var, v_int, v_str, v_bl, v_non, v_glob, v_add, v_sub, v_neg, v_idx, v_len, onV_d, onV_scr, onW_d, onW_scr, onW_own, simR, sv, frzT, E.sim?, E.var?, SE.var?, Tv.item, Tv.len, PyData.itemsOf, List.map_cons, List.map_nil, List.replicate, List.cons_append, List.nil_append, List.length_cons, List.length_nil, List.set_cons_zero, List.set_cons_succ, List.getElem?_cons_zero, List.getElem?_cons_succ, Option.join_some, Option.some.injEq, Option.map_some, exists_eq', exists_eq, exists_eq_left', exists_eq_left, exists_and_left, Option.bind_some, Option.bind_eq_bind, Option.pure_def, wipeR, restR, keepD, Tv.d.injEq, Tv.own.injEq, PyData.int.injEq, PyData.bool.injEq, PyData.tuple.injEq, PyData.list.injEq, PyData.str.injEq, List.cons.injEq, and_true, if_tt, if_ff, Option.bind_none, Option.getD_none, Option.getD_some, Int.sub_zero, Int.zero_add, and_assoc, true_and, exists_const, Nat.reduceAdd, Nat.reduceLT, Nat.reduceSub, Nat.zero_add]
    refine if_l (fun _ => ⟨_, rfl, a, b, c, _, rfl, by decide, by decide, fun pr pk ss a b c rest hP => ?_⟩) fun _ => ⟨_, rfl, a, b, c, _, rfl, by decide, by decide, fun pr pk ss a b c rest hP => ?_⟩
    all_goals
      have hp1 := hP.p1
      have hp2 := hP.p2
      have hk1 := hP.k1
      have hk2 := hP.k2
      obtain ⟨nicP, bigP, shP⟩ := nic_plan true hP
      simp only [r_nil, r_set, r_unp, r_par, r_ix1, r_ix2, r_ixp, r_ixe, r_app, r_ext, r_expr, r_ret, r_retv, r_retN, r_if, r_for, r_while, r_pass, r_brk, r_cont, q_sim, q_bin, q_neg, q_cmp, q_isN, q_notN, q_chain, q_and, q_or, q_and1, q_and2, q_or1, q_or2, q_not, q_ite, q_tup, q_lst, q_idx, q_slice, q_rev, q_blt1, q_bltv, q_blt2, q_sortset, q_lrng, q_lc, q_pop, q_index, q_es0, q_es1, q_o0, q_o1, q_c0, q_c1, q_seq, q_rng, q_enum, q_zip, g_name, g_tup, g_t0, g_t1, o_add, o_sub, o_mul, o_fdiv, o_mod, o_pow, f_d, f_nil, c_lt, c_le, c_gt, c_ge, c_eq, c_ne, at0, at1, at2, ix0, ix1, ix2, v_var, v_int, v_str, v_bl, v_non, v_glob, v_add, v_sub, v_neg, v_idx, v_len, onV_d, onV_scr, onW_d, onW_scr, onW_own, simR, sv, frzT, E.sim?, E.var?, SE.var?, Tv.item, Tv.len, PyData.itemsOf, List.map_cons, List.map_nil, List.replicate, List.cons_append, List.nil_append, List.length_cons, List.length_nil, List.set_cons_zero, List.set_cons_succ, List.getElem?_cons_zero, List.getElem?_cons_succ, Option.join_some, Option.some.injEq, Option.map_some, exists_eq', exists_eq, exists_eq_left', exists_eq_left, exists_and_left, Option.bind_some, Option.bind_eq_bind, Option.pure_def, wipeR, restR, keepD, Tv.d.injEq, Tv.own.injEq, PyData.int.injEq, PyData.bool.injEq, PyData.tuple.injEq, PyData.list.injEq, PyData.str.injEq, List.cons.injEq, and_true, if_tt, if_ff, Option.bind_none, Option.getD_none, Option.getD_some, Int.sub_zero, Int.zero_add, and_assoc, true_and, exists_const, Nat.reduceAdd, Nat.reduceLT, Nat.reduceSub, Nat.zero_add]
      rw [r_cons]
      simp only [q_callO hK rfl, argTs, argT, Tv.frz, frzs, fePick3, r_nil, r_set, r_unp, r_par, r_ix1, r_ix2, r_ixp, r_ixe, r_app, r_ext, r_expr, r_ret, r_retv, r_retN, r_if, r_for, r_while, r_pass, r_brk, r_cont, q_sim, q_bin, q_neg, q_cmp, q_isN, q_notN, q_chain, q_and, q_or, q_and1, q_and2, q_or1, q_or2, q_not, q_ite, q_tup, q_lst, q_idx, q_slice, q_rev, q_blt1, q_bltv, q_blt2, q_sortset, q_lrng, q_lc, q_pop, q_index, q_es0, q_es1, q_o0, q_o1, q_c0, q_c1, q_seq, q_rng, q_enum, q_zip, g_name, g_tup, g_t0, g_t1, o_add, o_sub, o_mul, o_fdiv, o_mod, o_pow, f_d, f_nil, c_lt, c_le, c_gt, c_ge, c_eq, c_ne, at0, at1, at2, ix0, ix1, ix2, v_var, v_int, v_str, v_bl, v_non, v_glob, v_add, v_sub, v_neg, v_idx, v_len, onV_d, onV_scr, onW_d, onW_scr, onW_own, simR, sv, frzT, E.sim?, E.var?, SE.var?, Tv.item, Tv.len, PyData.itemsOf, List.map_cons, List.map_nil, List.replicate, List.cons_append, List.nil_append, List.length_cons, List.length_nil, List.set_cons_zero, List.set_cons_succ, List.getElem?_cons_zero, List.getElem?_cons_succ, Option.join_some, Option.some.injEq, Option.map_some, exists_eq', exists_eq, exists_eq_left', exists_eq_left, exists_and_left, Option.bind_some, Option.bind_eq_bind, Option.pure_def, wipeR, restR, keepD, Tv.d.injEq, Tv.own.injEq, PyData.int.injEq, PyData.bool.injEq, PyData.tuple.injEq, PyData.list.injEq, PyData.str.injEq, List.cons.injEq, and_true, if_tt, if_ff, Option.bind_none, Option.getD_none, Option.getD_some, Int.sub_zero, Int.zero_add, and_assoc, true_and, exists_const, Nat.reduceAdd, Nat.reduceLT, Nat.reduceSub, Nat.zero_add]
      refine ⟨pow_ok (by decide) (by decide) (by decide), _, rfl, a, b, c, _, rfl, by simp, by decide, fun d a b c rest hd => ?_⟩
      obtain ⟨W, rfl, hW0, hW1⟩ : ∃ W : Int, d = .int W ∧ 1 ≤ W ∧ W ≤ 10 ^ 40 := by
        simp only [List.mem_cons, List.not_mem_nil, or_false] at hd
        rcases hd with rfl | rfl | rfl <;> exact ⟨_, rfl, by decide, by decide⟩
      simp only [r_nil, r_set, r_unp, r_par, r_ix1, r_ix2, r_ixp, r_ixe, r_app, r_ext, r_expr, r_ret, r_retv, r_retN, r_if, r_for, r_while, r_pass, r_brk, r_cont, q_sim, q_bin, q_neg, q_cmp, q_isN, q_notN, q_chain, q_and, q_or, q_and1, q_and2, q_or1, q_or2, q_not, q_ite, q_tup, q_lst, q_idx, q_slice, q_rev, q_blt1, q_bltv, q_blt2, q_sortset, q_lrng, q_lc, q_pop, q_index, q_es0, q_es1, q_o0, q_o1, q_c0, q_c1, q_seq, q_rng, q_enum, q_zip, g_name, g_tup, g_t0, g_t1, o_add, o_sub, o_mul, o_fdiv, o_mod, o_pow, f_d, f_nil, c_lt, c_le, c_gt, c_ge, c_eq, c_ne, at0, at1, at2, ix0, ix1, ix2, v_var, v_int, v_str, v_bl, v_non, v_glob, v_add, v_sub, v_neg, v_idx, v_len, onV_d, onV_scr, onW_d, onW_scr, onW_own, simR, sv, frzT, E.sim?, E.var?, SE.var?, Tv.item, Tv.len, PyData.itemsOf, List.map_cons, List.map_nil, List.replicate, List.cons_append, List.nil_append, List.length_cons, List.length_nil, List.set_cons_zero, List.set_cons_succ, List.getElem?_cons_zero, List.getElem?_cons_succ, Option.join_some, Option.some.injEq, Option.map_some, exists_eq', exists_eq, exists_eq_left', exists_eq_left, exists_and_left, Option.bind_some, Option.bind_eq_bind, Option.pure_def, wipeR, restR, keepD, Tv.d.injEq, Tv.own.injEq, PyData.int.injEq, PyData.bool.injEq, PyData.tuple.injEq, PyData.list.injEq, PyData.str.injEq, List.cons.injEq, and_true, if_tt, if_ff, Option.bind_none, Option.getD_none, Option.getD_some, Int.sub_zero, Int.zero_add, and_assoc, true_and, exists_const, Nat.reduceAdd, Nat.reduceLT, Nat.reduceSub, Nat.zero_add]
      -- strengths
      rw [r_cons]
      simp only [planD, r_nil, r_set, r_unp, r_par, r_ix1, r_ix2, r_ixp, r_ixe, r_app, r_ext, r_expr, r_ret, r_retv, r_retN, r_if, r_for, r_while, r_pass, r_brk, r_cont, q_sim, q_bin, q_neg, q_cmp, q_isN, q_notN, q_chain, q_and, q_or, q_and1, q_and2, q_or1, q_or2, q_not, q_ite, q_tup, q_lst, q_idx, q_slice, q_rev, q_blt1, q_bltv, q_blt2, q_sortset, q_lrng, q_lc, q_pop, q_index, q_es0, q_es1, q_o0, q_o1, q_c0, q_c1, q_seq, q_rng, q_enum, q_zip, g_name, g_tup, g_t0, g_t1, o_add, o_sub, o_mul, o_fdiv, o_mod, o_pow, f_d, f_nil, c_lt, c_le, c_gt, c_ge, c_eq, c_ne, at0, at1, at2, ix0, ix1, ix2, v_var, v_int, v_str, v_bl, v_non, v_glob, v_add, v_sub, v_neg, v_idx, v_len, onV_d, onV_scr, onW_d, onW_scr, onW_own, simR, sv, frzT, E.sim?, E.var?, SE.var?, Tv.item, Tv.len, PyData.itemsOf, List.map_cons, List.map_nil, List.replicate, List.cons_append, List.nil_append, List.length_cons, List.length_nil, List.set_cons_zero, List.set_cons_succ, List.getElem?_cons_zero, List.getElem?_cons_succ, Option.join_some, Option.some.injEq, Option.map_some, exists_eq', exists_eq, exists_eq_left', exists_eq_left, exists_and_left, Option.bind_some, Option.bind_eq_bind, Option.pure_def, wipeR, restR, keepD, Tv.d.injEq, Tv.own.injEq, PyData.int.injEq, PyData.bool.injEq, PyData.tuple.injEq, PyData.list.injEq, PyData.str.injEq, List.cons.injEq, and_true, if_tt, if_ff, Option.bind_none, Option.getD_none, Option.getD_some, Int.sub_zero, Int.zero_add, and_assoc, true_and, exists_const, Nat.reduceAdd, Nat.reduceLT, Nat.reduceSub, Nat.zero_add]
      refine ⟨by decide, by decide, by omega, by omega, fun j acc ρ => ∃ (a b c : Int) (ts : List Int), acc = (ts.map PyData.int).map Tv.d ∧ ts.length = j ∧ (∀ t ∈ ts, t.natAbs ≤ 10 ^ 40) ∧ ρ = [some (.scr ns), some (deck a b c), some (.d (.int k)), some (.d (planD pr pk ss)), some (.d (.int W)), none, none, none, none, none, none, none, none], ⟨a, b, c, [], rfl, rfl, fun _ z => (nomatch z), rfl⟩, ?_, ?_⟩
      · rintro j y acc ρ2 hy ⟨a, b, c, ts, rfl, hj, hts, rfl⟩
        have hlt := (List.getElem?_eq_some_iff.mp hy).1
        simp only [List.length_map, List.length_range] at hlt
        simp only [q_callO hT rfl, args1, feTake3, r_nil, r_cons, r_set, r_unp, r_par, r_ix1, r_ix2, r_ixp, r_ixe, r_app, r_ext, r_expr, r_ret, r_retv, r_retN, r_if, r_for, r_while, r_pass, r_brk, r_cont, q_sim, q_bin, q_neg, q_cmp, q_isN, q_notN, q_chain, q_and, q_or, q_and1, q_and2, q_or1, q_or2, q_not, q_ite, q_tup, q_lst, q_idx, q_slice, q_rev, q_blt1, q_bltv, q_blt2, q_sortset, q_lrng, q_lc, q_pop, q_index, q_es0, q_es1, q_o0, q_o1, q_c0, q_c1, q_seq, q_rng, q_enum, q_zip, g_name, g_tup, g_t0, g_t1, o_add, o_sub, o_mul, o_fdiv, o_mod, o_pow, f_d, f_nil, c_lt, c_le, c_gt, c_ge, c_eq, c_ne, at0, at1, at2, ix0, ix1, ix2, v_var, v_int, v_str, v_bl, v_non, v_glob, v_add, v_sub, v_neg, v_idx, v_len, onV_d, onV_scr, onW_d, onW_scr, onW_own, simR, sv, frzT, E.sim?, E.var?, SE.var?, Tv.item, Tv.len, PyData.itemsOf, List.map_cons, List.map_nil, List.replicate, List.cons_append, List.nil_append, List.length_cons, List.length_nil, List.set_cons_zero, List.set_cons_succ, List.getElem?_cons_zero, List.getElem?_cons_succ, Option.join_some, Option.some.injEq, Option.map_some, exists_eq', exists_eq, exists_eq_left', exists_eq_left, exists_and_left, Option.bind_some, Option.bind_eq_bind, Option.pure_def, wipeR, restR, keepD, Tv.d.injEq, Tv.own.injEq, PyData.int.injEq, PyData.bool.injEq, PyData.tuple.injEq, PyData.list.injEq, PyData.str.injEq, List.cons.injEq, and_true, if_tt, if_ff, Option.bind_none, Option.getD_none, Option.getD_some, Int.sub_zero, Int.zero_add, and_assoc, true_and, exists_const, Nat.reduceAdd, Nat.reduceLT, Nat.reduceSub, Nat.zero_add]
        refine ⟨fun _ => ⟨m_small' (by decide) (by decide), _, rfl, a, b, c, _, rfl, by omega, Int.lt_trans (show 2 * W + 1 < 10 ^ 50 by omega) (by decide), fun r a b c rest r0 r1 => ?_⟩, fun z => (nomatch z)⟩
        simp only [List.length_map, r_nil, r_cons, r_set, r_unp, r_par, r_ix1, r_ix2, r_ixp, r_ixe, r_app, r_ext, r_expr, r_ret, r_retv, r_retN, r_if, r_for, r_while, r_pass, r_brk, r_cont, q_sim, q_bin, q_neg, q_cmp, q_isN, q_notN, q_chain, q_and, q_or, q_and1, q_and2, q_or1, q_or2, q_not, q_ite, q_tup, q_lst, q_idx, q_slice, q_rev, q_blt1, q_bltv, q_blt2, q_sortset, q_lrng, q_lc, q_pop, q_index, q_es0, q_es1, q_o0, q_o1, q_c0, q_c1, q_seq, q_rng, q_enum, q_zip, g_name, g_tup, g_t0, g_t1, o_add, o_sub, o_mul, o_fdiv, o_mod, o_pow, f_d, f_nil, c_lt, c_le, c_gt, c_ge, c_eq, c_ne, at0, at1, at2, ix0, ix1, ix2, v_var, v_int, v_str, v_bl, v_non, v_glob, v_add, v_sub, v_neg, v_idx, v_len, onV_d, onV_scr, onW_d, onW_scr, onW_own, simR, sv, frzT, E.sim?, E.var?, SE.var?, Tv.item, Tv.len, PyData.itemsOf, List.map_cons, List.map_nil, List.replicate, List.cons_append, List.nil_append, List.length_cons, List.length_nil, List.set_cons_zero, List.set_cons_succ, List.getElem?_cons_zero, List.getElem?_cons_succ, Option.join_some, Option.some.injEq, Option.map_some, exists_eq', exists_eq, exists_eq_left', exists_eq_left, exists_and_left, Option.bind_some, Option.bind_eq_bind, Option.pure_def, wipeR, restR, keepD, Tv.d.injEq, Tv.own.injEq, PyData.int.injEq, PyData.bool.injEq, PyData.tuple.injEq, PyData.list.injEq, PyData.str.injEq, List.cons.injEq, and_true, if_tt, if_ff, Option.bind_none, Option.getD_none, Option.getD_some, Int.sub_zero, Int.zero_add, and_assoc, true_and, exists_const, Nat.reduceAdd, Nat.reduceLT, Nat.reduceSub, Nat.zero_add]
        refine ⟨small64 (by omega), a, b, c, ts ++ [r - W], by simp, by simp [hj], fun t ht => ?_, rfl⟩
        rcases List.mem_append.mp ht with h | h
        · exact hts t h
        · have e := List.mem_singleton.mp h
          omega
      rintro acc ρ2 ⟨a, b, c, st, rfl, hstl, hst, rfl⟩
      simp only [List.length_map, List.length_range] at hstl
      simp only [b_tuple, r_nil, r_set, r_unp, r_par, r_ix1, r_ix2, r_ixp, r_ixe, r_app, r_ext, r_expr, r_ret, r_retv, r_retN, r_if, r_for, r_while, r_pass, r_brk, r_cont, q_sim, q_bin, q_neg, q_cmp, q_isN, q_notN, q_chain, q_and, q_or, q_and1, q_and2, q_or1, q_or2, q_not, q_ite, q_tup, q_lst, q_idx, q_slice, q_rev, q_blt1, q_bltv, q_blt2, q_sortset, q_lrng, q_lc, q_pop, q_index, q_es0, q_es1, q_o0, q_o1, q_c0, q_c1, q_seq, q_rng, q_enum, q_zip, g_name, g_tup, g_t0, g_t1, o_add, o_sub, o_mul, o_fdiv, o_mod, o_pow, f_d, f_nil, c_lt, c_le, c_gt, c_ge, c_eq, c_ne, at0, at1, at2, ix0, ix1, ix2, v_var, v_int, v_str, v_bl, v_non, v_glob, v_add, v_sub, v_neg, v_idx, v_len, onV_d, onV_scr, onW_d, onW_scr, onW_own, simR, sv, frzT, E.sim?, E.var?, SE.var?, Tv.item, Tv.len, PyData.itemsOf, List.map_cons, List.map_nil, List.replicate, List.cons_append, List.nil_append, List.length_cons, List.length_nil, List.set_cons_zero, List.set_cons_succ, List.getElem?_cons_zero, List.getElem?_cons_succ, Option.join_some, Option.some.injEq, Option.map_some, exists_eq', exists_eq, exists_eq_left', exists_eq_left, exists_and_left, Option.bind_some, Option.bind_eq_bind, Option.pure_def, wipeR, restR, keepD, Tv.d.injEq, Tv.own.injEq, PyData.int.injEq, PyData.bool.injEq, PyData.tuple.injEq, PyData.list.injEq, PyData.str.injEq, List.cons.injEq, and_true, if_tt, if_ff, Option.bind_none, Option.getD_none, Option.getD_some, Int.sub_zero, Int.zero_add, and_assoc, true_and, exists_const, Nat.reduceAdd, Nat.reduceLT, Nat.reduceSub, Nat.zero_add]
      -- luck
      rw [r_cons]
      simp only [planD, at1, r_nil, r_set, r_unp, r_par, r_ix1, r_ix2, r_ixp, r_ixe, r_app, r_ext, r_expr, r_ret, r_retv, r_retN, r_if, r_for, r_while, r_pass, r_brk, r_cont, q_sim, q_bin, q_neg, q_cmp, q_isN, q_notN, q_chain, q_and, q_or, q_and1, q_and2, q_or1, q_or2, q_not, q_ite, q_tup, q_lst, q_idx, q_slice, q_rev, q_blt1, q_bltv, q_blt2, q_sortset, q_lrng, q_lc, q_pop, q_index, q_es0, q_es1, q_o0, q_o1, q_c0, q_c1, q_seq, q_rng, q_enum, q_zip, g_name, g_tup, g_t0, g_t1, o_add, o_sub, o_mul, o_fdiv, o_mod, o_pow, f_d, f_nil, c_lt, c_le, c_gt, c_ge, c_eq, c_ne, at0, at1, at2, ix0, ix1, ix2, v_var, v_int, v_str, v_bl, v_non, v_glob, v_add, v_sub, v_neg, v_idx, v_len, onV_d, onV_scr, onW_d, onW_scr, onW_own, simR, sv, frzT, E.sim?, E.var?, SE.var?, Tv.item, Tv.len, PyData.itemsOf, List.map_cons, List.map_nil, List.replicate, List.cons_append, List.nil_append, List.length_cons, List.length_nil, List.set_cons_zero, List.set_cons_succ, List.getElem?_cons_zero, List.getElem?_cons_succ, Option.join_some, Option.some.injEq, Option.map_some, exists_eq', exists_eq, exists_eq_left', exists_eq_left, exists_and_left, Option.bind_some, Option.bind_eq_bind, Option.pure_def, wipeR, restR, keepD, Tv.d.injEq, Tv.own.injEq, PyData.int.injEq, PyData.bool.injEq, PyData.tuple.injEq, PyData.list.injEq, PyData.str.injEq, List.cons.injEq, and_true, if_tt, if_ff, Option.bind_none, Option.getD_none, Option.getD_some, Int.sub_zero, Int.zero_add, and_assoc, true_and, exists_const, Nat.reduceAdd, Nat.reduceLT, Nat.reduceSub, Nat.zero_add]
      refine ⟨by decide, by decide, by omega, by omega, fun j acc ρ => ∃ (a b c : Int) (ts : List Int), acc = (ts.map PyData.int).map Tv.d ∧ ts.length = j ∧ (∀ t ∈ ts, t.natAbs ≤ 10 ^ 40) ∧ ρ = [some (.scr ns), some (deck a b c), some (.d (.int k)), some (.d (planD pr pk ss)), some (.d (.int W)), some (.d (.tuple (st.map .int))), none, none, none, none, none, none, none], ⟨a, b, c, [], rfl, rfl, fun _ z => (nomatch z), rfl⟩, ?_, ?_⟩
      · rintro j y acc ρ2 hy ⟨a, b, c, ts, rfl, hj, hts, rfl⟩
        have hlt := (List.getElem?_eq_some_iff.mp hy).1
        simp only [List.length_map, List.length_range] at hlt
        simp only [q_callO hT rfl, args1, feTake3, r_nil, r_cons, r_set, r_unp, r_par, r_ix1, r_ix2, r_ixp, r_ixe, r_app, r_ext, r_expr, r_ret, r_retv, r_retN, r_if, r_for, r_while, r_pass, r_brk, r_cont, q_sim, q_bin, q_neg, q_cmp, q_isN, q_notN, q_chain, q_and, q_or, q_and1, q_and2, q_or1, q_or2, q_not, q_ite, q_tup, q_lst, q_idx, q_slice, q_rev, q_blt1, q_bltv, q_blt2, q_sortset, q_lrng, q_lc, q_pop, q_index, q_es0, q_es1, q_o0, q_o1, q_c0, q_c1, q_seq, q_rng, q_enum, q_zip, g_name, g_tup, g_t0, g_t1, o_add, o_sub, o_mul, o_fdiv, o_mod, o_pow, f_d, f_nil, c_lt, c_le, c_gt, c_ge, c_eq, c_ne, at0, at1, at2, ix0, ix1, ix2, v_var, v_int, v_str, v_bl, v_non, v_glob, v_add, v_sub, v_neg, v_idx, v_len, onV_d, onV_scr, onW_d, onW_scr, onW_own, simR, sv, frzT, E.sim?, E.var?, SE.var?, Tv.item, Tv.len, PyData.itemsOf, List.map_cons, List.map_nil, List.replicate, List.cons_append, List.nil_append, List.length_cons, List.length_nil, List.set_cons_zero, List.set_cons_succ, List.getElem?_cons_zero, List.getElem?_cons_succ, Option.join_some, Option.some.injEq, Option.map_some, exists_eq', exists_eq, exists_eq_left', exists_eq_left, exists_and_left, Option.bind_some, Option.bind_eq_bind, Option.pure_def, wipeR, restR, keepD, Tv.d.injEq, Tv.own.injEq, PyData.int.injEq, PyData.bool.injEq, PyData.tuple.injEq, PyData.list.injEq, PyData.str.injEq, List.cons.injEq, and_true, if_tt, if_ff, Option.bind_none, Option.getD_none, Option.getD_some, Int.sub_zero, Int.zero_add, and_assoc, true_and, exists_const, Nat.reduceAdd, Nat.reduceLT, Nat.reduceSub, Nat.zero_add]
        refine ⟨fun _ => ⟨m_small' (by decide) (by decide), _, rfl, a, b, c, _, rfl, by omega, Int.lt_trans (show 2 * W + 1 < 10 ^ 50 by omega) (by decide), fun r a b c rest r0 r1 => ?_⟩, fun z => (nomatch z)⟩
        simp only [List.length_map, r_nil, r_cons, r_set, r_unp, r_par, r_ix1, r_ix2, r_ixp, r_ixe, r_app, r_ext, r_expr, r_ret, r_retv, r_retN, r_if, r_for, r_while, r_pass, r_brk, r_cont, q_sim, q_bin, q_neg, q_cmp, q_isN, q_notN, q_chain, q_and, q_or, q_and1, q_and2, q_or1, q_or2, q_not, q_ite, q_tup, q_lst, q_idx, q_slice, q_rev, q_blt1, q_bltv, q_blt2, q_sortset, q_lrng, q_lc, q_pop, q_index, q_es0, q_es1, q_o0, q_o1, q_c0, q_c1, q_seq, q_rng, q_enum, q_zip, g_name, g_tup, g_t0, g_t1, o_add, o_sub, o_mul, o_fdiv, o_mod, o_pow, f_d, f_nil, c_lt, c_le, c_gt, c_ge, c_eq, c_ne, at0, at1, at2, ix0, ix1, ix2, v_var, v_int, v_str, v_bl, v_non, v_glob, v_add, v_sub, v_neg, v_idx, v_len, onV_d, onV_scr, onW_d, onW_scr, onW_own, simR, sv, frzT, E.sim?, E.var?, SE.var?, Tv.item, Tv.len, PyData.itemsOf, List.map_cons, List.map_nil, List.replicate, List.cons_append, List.nil_append, List.length_cons, List.length_nil, List.set_cons_zero, List.set_cons_succ, List.getElem?_cons_zero, List.getElem?_cons_succ, Option.join_some, Option.some.injEq, Option.map_some, exists_eq', exists_eq, exists_eq_left', exists_eq_left, exists_and_left, Option.bind_some, Option.bind_eq_bind, Option.pure_def, wipeR, restR, keepD, Tv.d.injEq, Tv.own.injEq, PyData.int.injEq, PyData.bool.injEq, PyData.tuple.injEq, PyData.list.injEq, PyData.str.injEq, List.cons.injEq, and_true, if_tt, if_ff, Option.bind_none, Option.getD_none, Option.getD_some, Int.sub_zero, Int.zero_add, and_assoc, true_and, exists_const, Nat.reduceAdd, Nat.reduceLT, Nat.reduceSub, Nat.zero_add]
        refine ⟨small64 (by omega), a, b, c, ts ++ [r - W], by simp, by simp [hj], fun t ht => ?_, rfl⟩
        rcases List.mem_append.mp ht with h | h
        · exact hts t h
        · have e := List.mem_singleton.mp h
          omega
      rintro acc ρ2 ⟨a, b, c, lk, rfl, hlkl, hlk, rfl⟩
      simp only [List.length_map, List.length_range] at hlkl
      simp only [b_tuple, r_nil, r_set, r_unp, r_par, r_ix1, r_ix2, r_ixp, r_ixe, r_app, r_ext, r_expr, r_ret, r_retv, r_retN, r_if, r_for, r_while, r_pass, r_brk, r_cont, q_sim, q_bin, q_neg, q_cmp, q_isN, q_notN, q_chain, q_and, q_or, q_and1, q_and2, q_or1, q_or2, q_not, q_ite, q_tup, q_lst, q_idx, q_slice, q_rev, q_blt1, q_bltv, q_blt2, q_sortset, q_lrng, q_lc, q_pop, q_index, q_es0, q_es1, q_o0, q_o1, q_c0, q_c1, q_seq, q_rng, q_enum, q_zip, g_name, g_tup, g_t0, g_t1, o_add, o_sub, o_mul, o_fdiv, o_mod, o_pow, f_d, f_nil, c_lt, c_le, c_gt, c_ge, c_eq, c_ne, at0, at1, at2, ix0, ix1, ix2, v_var, v_int, v_str, v_bl, v_non, v_glob, v_add, v_sub, v_neg, v_idx, v_len, onV_d, onV_scr, onW_d, onW_scr, onW_own, simR, sv, frzT, E.sim?, E.var?, SE.var?, Tv.item, Tv.len, PyData.itemsOf, List.map_cons, List.map_nil, List.replicate, List.cons_append, List.nil_append, List.length_cons, List.length_nil, List.set_cons_zero, List.set_cons_succ, List.getElem?_cons_zero, List.getElem?_cons_succ, Option.join_some, Option.some.injEq, Option.map_some, exists_eq', exists_eq, exists_eq_left', exists_eq_left, exists_and_left, Option.bind_some, Option.bind_eq_bind, Option.pure_def, wipeR, restR, keepD, Tv.d.injEq, Tv.own.injEq, PyData.int.injEq, PyData.bool.injEq, PyData.tuple.injEq, PyData.list.injEq, PyData.str.injEq, List.cons.injEq, and_true, if_tt, if_ff, Option.bind_none, Option.getD_none, Option.getD_some, Int.sub_zero, Int.zero_add, and_assoc, true_and, exists_const, Nat.reduceAdd, Nat.reduceLT, Nat.reduceSub, Nat.zero_add]
      have hstn : st.length ≤ 10 := by omega
      have hlkn : lk.length ≤ 10 := by omega
      have okA : ShowOk (.list [planD pr pk ss, .tuple (st.map .int), .tuple (lk.map .int)]) := by
        refine show_ok (b := true) ?_ ?_ ?_
        · show (nic true (planD pr pk ss) && (nicA true (st.map .int) && (nicA true (lk.map .int) && true))) = true
          rw [nicP, nic_ints true st fun n hn => Nat.lt_of_le_of_lt (hst n hn) (by decide), nic_ints true lk fun n hn => Nat.lt_of_le_of_lt (hlk n hn) (by decide)]
          rfl
        · show (shal 29 (planD pr pk ss) && ((st.map PyData.int).all (shal 28) && ((lk.map PyData.int).all (shal 28) && true))) = true
          rw [shP, shal_ints 28 st, shal_ints 28 lk]
          rfl
        · show big (planD pr pk ss) + 1 + (bigA (st.map .int) + 1 + (bigA (lk.map .int) + 1 + 0)) ≤ 200000
          rw [big_ints, big_ints]
          omega
      -- what is due
      rw [r_cons]
      simp only [fo3, List.zip_cons_cons, List.zip_nil_right, List.foldl_cons, List.foldl_nil, q_call hY rfl, args1, feLawPlays, r_nil, r_set, r_unp, r_par, r_ix1, r_ix2, r_ixp, r_ixe, r_app, r_ext, r_expr, r_ret, r_retv, r_retN, r_if, r_for, r_while, r_pass, r_brk, r_cont, q_sim, q_bin, q_neg, q_cmp, q_isN, q_notN, q_chain, q_and, q_or, q_and1, q_and2, q_or1, q_or2, q_not, q_ite, q_tup, q_lst, q_idx, q_slice, q_rev, q_blt1, q_bltv, q_blt2, q_sortset, q_lrng, q_lc, q_pop, q_index, q_es0, q_es1, q_o0, q_o1, q_c0, q_c1, q_seq, q_rng, q_enum, q_zip, g_name, g_tup, g_t0, g_t1, o_add, o_sub, o_mul, o_fdiv, o_mod, o_pow, f_d, f_nil, c_lt, c_le, c_gt, c_ge, c_eq, c_ne, at0, at1, at2, ix0, ix1, ix2, v_var, v_int, v_str, v_bl, v_non, v_glob, v_add, v_sub, v_neg, v_idx, v_len, onV_d, onV_scr, onW_d, onW_scr, onW_own, simR, sv, frzT, E.sim?, E.var?, SE.var?, Tv.item, Tv.len, PyData.itemsOf, List.map_cons, List.map_nil, List.replicate, List.cons_append, List.nil_append, List.length_cons, List.length_nil, List.set_cons_zero, List.set_cons_succ, List.getElem?_cons_zero, List.getElem?_cons_succ, Option.join_some, Option.some.injEq, Option.map_some, exists_eq', exists_eq, exists_eq_left', exists_eq_left, exists_and_left, Option.bind_some, Option.bind_eq_bind, Option.pure_def, wipeR, restR, keepD, Tv.d.injEq, Tv.own.injEq, PyData.int.injEq, PyData.bool.injEq, PyData.tuple.injEq, PyData.list.injEq, PyData.str.injEq, List.cons.injEq, and_true, if_tt, if_ff, Option.bind_none, Option.getD_none, Option.getD_some, Int.sub_zero, Int.zero_add, and_assoc, true_and, exists_const, Nat.reduceAdd, Nat.reduceLT, Nat.reduceSub, Nat.zero_add]
      refine b_repr fo3 rfl okA ?_
      generalize hS : PyData.shown (.list [planD pr pk ss, .tuple (st.map .int), .tuple (lk.map .int)]) = S
      refine ⟨pr, pk, ss, rfl, hP, fun rest => ?_⟩
      simp only [f_own, r_nil, r_set, r_unp, r_par, r_ix1, r_ix2, r_ixp, r_ixe, r_app, r_ext, r_expr, r_ret, r_retv, r_retN, r_if, r_for, r_while, r_pass, r_brk, r_cont, q_sim, q_bin, q_neg, q_cmp, q_isN, q_notN, q_chain, q_and, q_or, q_and1, q_and2, q_or1, q_or2, q_not, q_ite, q_tup, q_lst, q_idx, q_slice, q_rev, q_blt1, q_bltv, q_blt2, q_sortset, q_lrng, q_lc, q_pop, q_index, q_es0, q_es1, q_o0, q_o1, q_c0, q_c1, q_seq, q_rng, q_enum, q_zip, g_name, g_tup, g_t0, g_t1, o_add, o_sub, o_mul, o_fdiv, o_mod, o_pow, f_d, f_nil, c_lt, c_le, c_gt, c_ge, c_eq, c_ne, at0, at1, at2, ix0, ix1, ix2, v_var, v_int, v_str, v_bl, v_non, v_glob, v_add, v_sub, v_neg, v_idx, v_len, onV_d, onV_scr, onW_d, onW_scr, onW_own, simR, sv, frzT, E.sim?, E.var?, SE.var?, Tv.item, Tv.len, PyData.itemsOf, List.map_cons, List.map_nil, List.replicate, List.cons_append, List.nil_append, List.length_cons, List.length_nil, List.set_cons_zero, List.set_cons_succ, List.getElem?_cons_zero, List.getElem?_cons_succ, Option.join_some, Option.some.injEq, Option.map_some, exists_eq', exists_eq, exists_eq_left', exists_eq_left, exists_and_left, Option.bind_some, Option.bind_eq_bind, Option.pure_def, wipeR, restR, keepD, Tv.d.injEq, Tv.own.injEq, PyData.int.injEq, PyData.bool.injEq, PyData.tuple.injEq, PyData.list.injEq, PyData.str.injEq, List.cons.injEq, and_true, if_tt, if_ff, Option.bind_none, Option.getD_none, Option.getD_some, Int.sub_zero, Int.zero_add, and_assoc, true_and, exists_const, Nat.reduceAdd, Nat.reduceLT, Nat.reduceSub, Nat.zero_add]
      have hall := plays_all hP
      have hplen := plays_len hP
      refine ⟨fun j acc ρ => acc = ((((playsL ss).take j).map (gainI lk st)).map PyData.int).map Tv.d ∧ ρ = [some (.scr ns), some (deck a b c), some (.d (.int k)), some (.d (planD pr pk ss)), some (.d (.int W)), some (.d (.tuple (st.map .int))), some (.d (.tuple (lk.map .int))), none, none, none, none, none, none], ⟨rfl, rfl⟩, ?_, ?_⟩
      · rintro j y acc ρ2 hy ⟨rfl, rfl⟩
        have hj := (List.getElem?_eq_some_iff.mp hy).1
        obtain ⟨p, n, e, rfl, b1, b2, b3, b4, b5, b6⟩ := hall y (List.mem_of_getElem? hy)
        simp only [tripD, at_ints (xs := lk) b1 (by omega), at_ints (xs := st) b3 (by omega), at_ints (xs := st) b5 (by omega), Option.map_some, List.length_map, List.length_take, r_nil, r_cons, r_set, r_unp, r_par, r_ix1, r_ix2, r_ixp, r_ixe, r_app, r_ext, r_expr, r_ret, r_retv, r_retN, r_if, r_for, r_while, r_pass, r_brk, r_cont, q_sim, q_bin, q_neg, q_cmp, q_isN, q_notN, q_chain, q_and, q_or, q_and1, q_and2, q_or1, q_or2, q_not, q_ite, q_tup, q_lst, q_idx, q_slice, q_rev, q_blt1, q_bltv, q_blt2, q_sortset, q_lrng, q_lc, q_pop, q_index, q_es0, q_es1, q_o0, q_o1, q_c0, q_c1, q_seq, q_rng, q_enum, q_zip, g_name, g_tup, g_t0, g_t1, o_add, o_sub, o_mul, o_fdiv, o_mod, o_pow, f_d, f_nil, c_lt, c_le, c_gt, c_ge, c_eq, c_ne, at0, at1, at2, ix0, ix1, ix2, v_var, v_int, v_str, v_bl, v_non, v_glob, v_add, v_sub, v_neg, v_idx, v_len, onV_d, onV_scr, onW_d, onW_scr, onW_own, simR, sv, frzT, E.sim?, E.var?, SE.var?, Tv.item, Tv.len, PyData.itemsOf, List.map_cons, List.map_nil, List.replicate, List.cons_append, List.nil_append, List.length_cons, List.length_nil, List.set_cons_zero, List.set_cons_succ, List.getElem?_cons_zero, List.getElem?_cons_succ, Option.join_some, Option.some.injEq, Option.map_some, exists_eq', exists_eq, exists_eq_left', exists_eq_left, exists_and_left, Option.bind_some, Option.bind_eq_bind, Option.pure_def, wipeR, restR, keepD, Tv.d.injEq, Tv.own.injEq, PyData.int.injEq, PyData.bool.injEq, PyData.tuple.injEq, PyData.list.injEq, PyData.str.injEq, List.cons.injEq, and_true, if_tt, if_ff, Option.bind_none, Option.getD_none, Option.getD_some, Int.sub_zero, Int.zero_add, and_assoc, true_and, exists_const, Nat.reduceAdd, Nat.reduceLT, Nat.reduceSub, Nat.zero_add]
        refine ⟨fun _ => ⟨small64 (by omega), ?_⟩, fun z => (nomatch z)⟩
        rw [take_snoc hy]
        simp [tripD, gainI]
      rintro acc ρ2 ⟨rfl, rfl⟩
      have hdl : ((playsL ss).map (gainI lk st)) = dealtL lk st ss := rfl
      simp only [List.take_length, hdl, r_nil, r_set, r_unp, r_par, r_ix1, r_ix2, r_ixp, r_ixe, r_app, r_ext, r_expr, r_ret, r_retv, r_retN, r_if, r_for, r_while, r_pass, r_brk, r_cont, q_sim, q_bin, q_neg, q_cmp, q_isN, q_notN, q_chain, q_and, q_or, q_and1, q_and2, q_or1, q_or2, q_not, q_ite, q_tup, q_lst, q_idx, q_slice, q_rev, q_blt1, q_bltv, q_blt2, q_sortset, q_lrng, q_lc, q_pop, q_index, q_es0, q_es1, q_o0, q_o1, q_c0, q_c1, q_seq, q_rng, q_enum, q_zip, g_name, g_tup, g_t0, g_t1, o_add, o_sub, o_mul, o_fdiv, o_mod, o_pow, f_d, f_nil, c_lt, c_le, c_gt, c_ge, c_eq, c_ne, at0, at1, at2, ix0, ix1, ix2, v_var, v_int, v_str, v_bl, v_non, v_glob, v_add, v_sub, v_neg, v_idx, v_len, onV_d, onV_scr, onW_d, onW_scr, onW_own, simR, sv, frzT, E.sim?, E.var?, SE.var?, Tv.item, Tv.len, PyData.itemsOf, List.map_cons, List.map_nil, List.replicate, List.cons_append, List.nil_append, List.length_cons, List.length_nil, List.set_cons_zero, List.set_cons_succ, List.getElem?_cons_zero, List.getElem?_cons_succ, Option.join_some, Option.some.injEq, Option.map_some, exists_eq', exists_eq, exists_eq_left', exists_eq_left, exists_and_left, Option.bind_some, Option.bind_eq_bind, Option.pure_def, wipeR, restR, keepD, Tv.d.injEq, Tv.own.injEq, PyData.int.injEq, PyData.bool.injEq, PyData.tuple.injEq, PyData.list.injEq, PyData.str.injEq, List.cons.injEq, and_true, if_tt, if_ff, Option.bind_none, Option.getD_none, Option.getD_some, Int.sub_zero, Int.zero_add, and_assoc, true_and, exists_const, Nat.reduceAdd, Nat.reduceLT, Nat.reduceSub, Nat.zero_add]
      refine ⟨by decide, by decide, ?_⟩
      have hgl : (dealtL lk st ss).length ≤ 480 := by unfold dealtL; rw [List.length_map]; exact hplen
      have hgb := gain_le hP hlk hst
      rw [r_cons]
      simp only [q_call hE rfl, q_callK hE rfl, args33, feDealt, r_nil, r_set, r_unp, r_par, r_ix1, r_ix2, r_ixp, r_ixe, r_app, r_ext, r_expr, r_ret, r_retv, r_retN, r_if, r_for, r_while, r_pass, r_brk, r_cont, q_sim, q_bin, q_neg, q_cmp, q_isN, q_notN, q_chain, q_and, q_or, q_and1, q_and2, q_or1, q_or2, q_not, q_ite, q_tup, q_lst, q_idx, q_slice, q_rev, q_blt1, q_bltv, q_blt2, q_sortset, q_lrng, q_lc, q_pop, q_index, q_es0, q_es1, q_o0, q_o1, q_c0, q_c1, q_seq, q_rng, q_enum, q_zip, g_name, g_tup, g_t0, g_t1, o_add, o_sub, o_mul, o_fdiv, o_mod, o_pow, f_d, f_nil, c_lt, c_le, c_gt, c_ge, c_eq, c_ne, at0, at1, at2, ix0, ix1, ix2, v_var, v_int, v_str, v_bl, v_non, v_glob, v_add, v_sub, v_neg, v_idx, v_len, onV_d, onV_scr, onW_d, onW_scr, onW_own, simR, sv, frzT, E.sim?, E.var?, SE.var?, Tv.item, Tv.len, PyData.itemsOf, List.map_cons, List.map_nil, List.replicate, List.cons_append, List.nil_append, List.length_cons, List.length_nil, List.set_cons_zero, List.set_cons_succ, List.getElem?_cons_zero, List.getElem?_cons_succ, Option.join_some, Option.some.injEq, Option.map_some, exists_eq', exists_eq, exists_eq_left', exists_eq_left, exists_and_left, Option.bind_some, Option.bind_eq_bind, Option.pure_def, wipeR, restR, keepD, Tv.d.injEq, Tv.own.injEq, PyData.int.injEq, PyData.bool.injEq, PyData.tuple.injEq, PyData.list.injEq, PyData.str.injEq, List.cons.injEq, and_true, if_tt, if_ff, Option.bind_none, Option.getD_none, Option.getD_some, Int.sub_zero, Int.zero_add, and_assoc, true_and, exists_const, Nat.reduceAdd, Nat.reduceLT, Nat.reduceSub, Nat.zero_add]
      refine ⟨pr, pk, ss, st, lk, rfl, hP, by omega, by omega, fun rest => ?_⟩
      refine ⟨by simp, _, rfl, pr, pk, ss, st, lk, rfl, hP, by omega, by omega, fun rest => ?_⟩
      generalize dealtL lk st ss = gl at hgl hgb ⊢
      have okB : ShowOk (.list [.tuple (gl.map .int), .tuple (gl.map .int)]) := by
        refine show_ok (b := true) ?_ ?_ ?_
        · show (nicA true (gl.map .int) && (nicA true (gl.map .int) && true)) = true
          rw [nic_ints true gl hgb]
          rfl
        · show ((gl.map PyData.int).all (shal 28) && ((gl.map PyData.int).all (shal 28) && true)) = true
          rw [shal_ints 28 gl]
          rfl
        · show bigA (gl.map .int) + 1 + (bigA (gl.map .int) + 1 + 0) ≤ 200000
          rw [big_ints]
          omega
      refine b_repr fo2 rfl okB ?_
      simp only [b_tuple, b_tupleL, f_own, r_nil, r_set, r_unp, r_par, r_ix1, r_ix2, r_ixp, r_ixe, r_app, r_ext, r_expr, r_ret, r_retv, r_retN, r_if, r_for, r_while, r_pass, r_brk, r_cont, q_sim, q_bin, q_neg, q_cmp, q_isN, q_notN, q_chain, q_and, q_or, q_and1, q_and2, q_or1, q_or2, q_not, q_ite, q_tup, q_lst, q_idx, q_slice, q_rev, q_blt1, q_bltv, q_blt2, q_sortset, q_lrng, q_lc, q_pop, q_index, q_es0, q_es1, q_o0, q_o1, q_c0, q_c1, q_seq, q_rng, q_enum, q_zip, g_name, g_tup, g_t0, g_t1, o_add, o_sub, o_mul, o_fdiv, o_mod, o_pow, f_d, f_nil, c_lt, c_le, c_gt, c_ge, c_eq, c_ne, at0, at1, at2, ix0, ix1, ix2, v_var, v_int, v_str, v_bl, v_non, v_glob, v_add, v_sub, v_neg, v_idx, v_len, onV_d, onV_scr, onW_d, onW_scr, onW_own, simR, sv, frzT, E.sim?, E.var?, SE.var?, Tv.item, Tv.len, PyData.itemsOf, List.map_cons, List.map_nil, List.replicate, List.cons_append, List.nil_append, List.length_cons, List.length_nil, List.set_cons_zero, List.set_cons_succ, List.getElem?_cons_zero, List.getElem?_cons_succ, Option.join_some, Option.some.injEq, Option.map_some, exists_eq', exists_eq, exists_eq_left', exists_eq_left, exists_and_left, Option.bind_some, Option.bind_eq_bind, Option.pure_def, wipeR, restR, keepD, Tv.d.injEq, Tv.own.injEq, PyData.int.injEq, PyData.bool.injEq, PyData.tuple.injEq, PyData.list.injEq, PyData.str.injEq, List.cons.injEq, and_true, if_tt, if_ff, Option.bind_none, Option.getD_none, Option.getD_some, Int.sub_zero, Int.zero_add, and_assoc, true_and, exists_const, Nat.reduceAdd, Nat.reduceLT, Nat.reduceSub, Nat.zero_add]
      refine ⟨[.tuple (gl.map .int)], fo1, by decide, by decide, by rw [sizeLine_eq]; exact (by decide : 1 * Int.toNat 2 ≤ 16777216), ?_⟩
      refine b_repr (d := .list [.tuple (gl.map .int), .tuple (gl.map .int)]) fo2 rfl okB (c_neStr ?_)
      simp only [beq_self_eq_true, Bool.not_true, r_nil, r_set, r_unp, r_par, r_ix1, r_ix2, r_ixp, r_ixe, r_app, r_ext, r_expr, r_ret, r_retv, r_retN, r_if, r_for, r_while, r_pass, r_brk, r_cont, q_sim, q_bin, q_neg, q_cmp, q_isN, q_notN, q_chain, q_and, q_or, q_and1, q_and2, q_or1, q_or2, q_not, q_ite, q_tup, q_lst, q_idx, q_slice, q_rev, q_blt1, q_bltv, q_blt2, q_sortset, q_lrng, q_lc, q_pop, q_index, q_es0, q_es1, q_o0, q_o1, q_c0, q_c1, q_seq, q_rng, q_enum, q_zip, g_name, g_tup, g_t0, g_t1, o_add, o_sub, o_mul, o_fdiv, o_mod, o_pow, f_d, f_nil, c_lt, c_le, c_gt, c_ge, c_eq, c_ne, at0, at1, at2, ix0, ix1, ix2, v_var, v_int, v_str, v_bl, v_non, v_glob, v_add, v_sub, v_neg, v_idx, v_len, onV_d, onV_scr, onW_d, onW_scr, onW_own, simR, sv, frzT, E.sim?, E.var?, SE.var?, Tv.item, Tv.len, PyData.itemsOf, List.map_cons, List.map_nil, List.replicate, List.cons_append, List.nil_append, List.length_cons, List.length_nil, List.set_cons_zero, List.set_cons_succ, List.getElem?_cons_zero, List.getElem?_cons_succ, Option.join_some, Option.some.injEq, Option.map_some, exists_eq', exists_eq, exists_eq_left', exists_eq_left, exists_and_left, Option.bind_some, Option.bind_eq_bind, Option.pure_def, wipeR, restR, keepD, Tv.d.injEq, Tv.own.injEq, PyData.int.injEq, PyData.bool.injEq, PyData.tuple.injEq, PyData.list.injEq, PyData.str.injEq, List.cons.injEq, and_true, if_tt, if_ff, Option.bind_none, Option.getD_none, Option.getD_some, Int.sub_zero, Int.zero_add, and_assoc, true_and, exists_const, Nat.reduceAdd, Nat.reduceLT, Nat.reduceSub, Nat.zero_add]
      rw [r_cons]
      simp only [r_nil, r_set, r_unp, r_par, r_ix1, r_ix2, r_ixp, r_ixe, r_app, r_ext, r_expr, r_ret, r_retv, r_retN, r_if, r_for, r_while, r_pass, r_brk, r_cont, q_sim, q_bin, q_neg, q_cmp, q_isN, q_notN, q_chain, q_and, q_or, q_and1, q_and2, q_or1, q_or2, q_not, q_ite, q_tup, q_lst, q_idx, q_slice, q_rev, q_blt1, q_bltv, q_blt2, q_sortset, q_lrng, q_lc, q_pop, q_index, q_es0, q_es1, q_o0, q_o1, q_c0, q_c1, q_seq, q_rng, q_enum, q_zip, g_name, g_tup, g_t0, g_t1, o_add, o_sub, o_mul, o_fdiv, o_mod, o_pow, f_d, f_nil, c_lt, c_le, c_gt, c_ge, c_eq, c_ne, at0, at1, at2, ix0, ix1, ix2, v_var, v_int, v_str, v_bl, v_non, v_glob, v_add, v_sub, v_neg, v_idx, v_len, onV_d, onV_scr, onW_d, onW_scr, onW_own, simR, sv, frzT, E.sim?, E.var?, SE.var?, Tv.item, Tv.len, PyData.itemsOf, List.map_cons, List.map_nil, List.replicate, List.cons_append, List.nil_append, List.length_cons, List.length_nil, List.set_cons_zero, List.set_cons_succ, List.getElem?_cons_zero, List.getElem?_cons_succ, Option.join_some, Option.some.injEq, Option.map_some, exists_eq', exists_eq, exists_eq_left', exists_eq_left, exists_and_left, Option.bind_some, Option.bind_eq_bind, Option.pure_def, wipeR, restR, keepD, Tv.d.injEq, Tv.own.injEq, PyData.int.injEq, PyData.bool.injEq, PyData.tuple.injEq, PyData.list.injEq, PyData.str.injEq, List.cons.injEq, and_true, if_tt, if_ff, Option.bind_none, Option.getD_none, Option.getD_some, Int.sub_zero, Int.zero_add, and_assoc, true_and, exists_const, Nat.reduceAdd, Nat.reduceLT, Nat.reduceSub, Nat.zero_add]
      refine b_repr fo3 rfl okA (c_neStr ?_)
      rw [hS]
      simp only [beq_self_eq_true, Bool.not_true, r_nil, r_cons, r_set, r_unp, r_par, r_ix1, r_ix2, r_ixp, r_ixe, r_app, r_ext, r_expr, r_ret, r_retv, r_retN, r_if, r_for, r_while, r_pass, r_brk, r_cont, q_sim, q_bin, q_neg, q_cmp, q_isN, q_notN, q_chain, q_and, q_or, q_and1, q_and2, q_or1, q_or2, q_not, q_ite, q_tup, q_lst, q_idx, q_slice, q_rev, q_blt1, q_bltv, q_blt2, q_sortset, q_lrng, q_lc, q_pop, q_index, q_es0, q_es1, q_o0, q_o1, q_c0, q_c1, q_seq, q_rng, q_enum, q_zip, g_name, g_tup, g_t0, g_t1, o_add, o_sub, o_mul, o_fdiv, o_mod, o_pow, f_d, f_nil, c_lt, c_le, c_gt, c_ge, c_eq, c_ne, at0, at1, at2, ix0, ix1, ix2, v_var, v_int, v_str, v_bl, v_non, v_glob, v_add, v_sub, v_neg, v_idx, v_len, onV_d, onV_scr, onW_d, onW_scr, onW_own, simR, sv, frzT, E.sim?, E.var?, SE.var?, Tv.item, Tv.len, PyData.itemsOf, List.map_cons, List.map_nil, List.replicate, List.cons_append, List.nil_append, List.length_cons, List.length_nil, List.set_cons_zero, List.set_cons_succ, List.getElem?_cons_zero, List.getElem?_cons_succ, Option.join_some, Option.some.injEq, Option.map_some, exists_eq', exists_eq, exists_eq_left', exists_eq_left, exists_and_left, Option.bind_some, Option.bind_eq_bind, Option.pure_def, wipeR, restR, keepD, Tv.d.injEq, Tv.own.injEq, PyData.int.injEq, PyData.bool.injEq, PyData.tuple.injEq, PyData.list.injEq, PyData.str.injEq, List.cons.injEq, and_true, if_tt, if_ff, Option.bind_none, Option.getD_none, Option.getD_some, Int.sub_zero, Int.zero_add, and_assoc, true_and, exists_const, Nat.reduceAdd, Nat.reduceLT, Nat.reduceSub, Nat.zero_add]
      exact ⟨_, _, _, rfl⟩
  · rintro ρ2 ⟨a, b, c, rfl⟩
    simp only [r_nil, r_cons, r_set, r_unp, r_par, r_ix1, r_ix2, r_ixp, r_ixe, r_app, r_ext, r_expr, r_ret, r_retv, r_retN, r_if, r_for, r_while, r_pass, r_brk, r_cont, q_sim, q_bin, q_neg, q_cmp, q_isN, q_notN, q_chain, q_and, q_or, q_and1, q_and2, q_or1, q_or2, q_not, q_ite, q_tup, q_lst, q_idx, q_slice, q_rev, q_blt1, q_bltv, q_blt2, q_sortset, q_lrng, q_lc, q_pop, q_index, q_es0, q_es1, q_o0, q_o1, q_c0, q_c1, q_seq, q_rng, q_enum, q_zip, g_name, g_tup, g_t0, g_t1, o_add, o_sub, o_mul, o_fdiv, o_mod, o_pow, f_d, f_nil, c_lt, c_le, c_gt, c_ge, c_eq, c_ne, at0, at1, at2, ix0, ix1, ix2, v_var, v_int, v_str, v_bl, v_non, v_glob, v_add, v_sub, v_neg, v_idx, v_len, onV_d, onV_scr, onW_d, onW_scr, onW_own, simR, sv, frzT, E.sim?, E.var?, SE.var?, Tv.item, Tv.len, PyData.itemsOf, List.map_cons, List.map_nil, List.replicate, List.cons_append, List.nil_append, List.length_cons, List.length_nil, List.set_cons_zero, List.set_cons_succ, List.getElem?_cons_zero, List.getElem?_cons_succ, Option.join_some, Option.some.injEq, Option.map_some, exists_eq', exists_eq, exists_eq_left', exists_eq_left, exists_and_left, Option.bind_some, Option.bind_eq_bind, Option.pure_def, wipeR, restR, keepD, Tv.d.injEq, Tv.own.injEq, PyData.int.injEq, PyData.bool.injEq, PyData.tuple.injEq, PyData.list.injEq, PyData.str.injEq, List.cons.injEq, and_true, if_tt, if_ff, Option.bind_none, Option.getD_none, Option.getD_some, Int.sub_zero, Int.zero_add, and_assoc, true_and, exists_const, Nat.reduceAdd, Nat.reduceLT, Nat.reduceSub, Nat.zero_add]
    exact hq _
end Tr
set_option Elab.async false
set_option linter.all false
set_option maxRecDepth 100000
set_option maxHeartbeats 4000000
set_option exponentiation.threshold 3000
namespace Tr
open PySem PySem.Spec PyProof.Rows L2
/-! what plans tell -/
def packIs (p : Int) : PyData → Bool
  | .tuple (.int q :: _) => q == p
  | _ => false
def sideIs (a : Int) : PyData → Bool
  | .tuple [_, .int n, .int e] => a == n || a == e
  | _ => false
def sideD : PyData → PyData
  | .tuple [_, n, e] => .tuple [n, e]
  | d => d
def bPlaysOf : SL := (.cons (.ret (.lc (.tup (.cons (.sim (.var 3)) (.cons (.sim (.var 4)) .nil))) (.tup (.cons (.name 2) (.cons (.name 3) (.cons (.name 4) .nil)))) (.seq (.call "plays" (.cons (.sim (.var 0)) .nil))) (.som (.cmp .eq (.sim (.var 2)) (.sim (.var 1)))) [2, 3, 4]))
  .nil)
def bHeld : SL := (.cons (.ret (.bltv .len (.call "plays_of" (.cons (.sim (.var 0)) (.cons (.sim (.var 1)) .nil)))))
  .nil)
def bMet : SL := (.cons (.ret (.bltv .len (.lc (.sim (.int 1)) (.tup (.cons (.name 3) (.cons (.name 4) (.cons (.name 5) .nil)))) (.seq (.call "plays" (.cons (.sim (.var 0)) .nil))) (.som (.and_ (.cons (.cmp .inn (.sim (.var 1)) (.tup (.cons (.sim (.var 4)) (.cons (.sim (.var 5)) .nil)))) (.cons (.cmp .inn (.sim (.var 2)) (.tup (.cons (.sim (.var 4)) (.cons (.sim (.var 5)) .nil)))) .nil)))) [3, 4, 5])))
  .nil)
def bLacking : SL := (.cons (.par [2, 3] (.cons (.call "plays" (.cons (.sim (.var 0)) .nil)) (.cons (.lst .nil) .nil)))
  (.cons (.for_ (.name 1) (.rng .non (.sim (.idx (.var 0) (.int 0))))
  (.cons (.set 4 (.lc (.sim (.var 5)) (.tup (.cons (.name 5) (.cons (.name 6) (.cons (.name 7) .nil)))) (.seq (.sim (.var 2))) (.som (.cmp .inn (.sim (.var 1)) (.tup (.cons (.sim (.var 6)) (.cons (.sim (.var 7)) .nil))))) [5, 6, 7]))
  (.cons (.ext 3 (.lc (.tup (.cons (.sim (.var 1)) (.cons (.sim (.var 5)) .nil))) (.name 5) (.rng .non (.sim (.idx (.var 0) (.int 1)))) (.som (.cmp .nin (.sim (.var 5)) (.sim (.var 4)))) [5]))
  .nil))
  [1, 4])
  (.cons (.ret (.blt1 .tuple (.sim (.var 3))))
  .nil)))
def spPlaysOf : FS := fun xs Q => ∃ pr pk ss, ∃ p : Int, xs = [.d (planD pr pk ss), .d (.int p)] ∧ PlanOk pr pk ss ∧ ∀ rest, Q (.own ((((playsL ss).filter (packIs p)).map sideD).map .d)) rest
theorem ok_playsOf {Γ : Gam} {Φ : Phi} (hP : Φ "plays" = some fePlays) : ∀ xs Q, spPlaysOf xs Q → fsOf Γ Φ 2 5 bPlaysOf xs Q := by
  rintro xs Q ⟨pr, pk, ss, p, rfl, hplan, hq⟩
  refine ⟨rfl, ?_⟩
  rw [bPlaysOf, r_cons]
  simp only [q_call hP rfl, args1, fePlays, r_nil, r_set, r_unp, r_par, r_ix1, r_ix2, r_ixp, r_ixe, r_app, r_ext, r_expr, r_ret, r_retv, r_retN, r_if, r_for, r_while, r_pass, r_brk, r_cont, q_sim, q_bin, q_neg, q_cmp, q_isN, q_notN, q_chain, q_and, q_or, q_and1, q_and2, q_or1, q_or2, q_not, q_ite, q_tup, q_lst, q_idx, q_slice, q_rev, q_blt1, q_bltv, q_blt2, q_sortset, q_lrng, q_lc, q_pop, q_index, q_es0, q_es1, q_o0, q_o1, q_c0, q_c1, q_seq, q_rng, q_enum, q_zip, g_name, g_tup, g_t0, g_t1, o_add, o_sub, o_mul, o_fdiv, o_mod, o_pow, f_d, f_nil, c_lt, c_le, c_gt, c_ge, c_eq, c_ne, at0, at1, at2, ix0, ix1, ix2, v_var, v_int, v_str, v_bl, v_non, v_glob, v_add, v_sub, v_neg, v_idx, v_len, onV_d, onV_scr, onW_d, onW_scr, onW_own, simR, sv, frzT, E.sim?, E.var?, SE.var?, Tv.item, Tv.len, PyData.itemsOf, List.map_cons, List.map_nil, List.replicate, List.cons_append, List.nil_append, List.length_cons, List.length_nil, List.set_cons_zero, List.set_cons_succ, List.getElem?_cons_zero, List.getElem?_cons_succ, Option.join_some, Option.some.injEq, Option.map_some, exists_eq', exists_eq, exists_eq_left', exists_eq_left, exists_and_left, Option.bind_some, Option.bind_eq_bind, Option.pure_def, wipeR, restR, keepD, Tv.d.injEq, Tv.own.injEq, PyData.int.injEq, PyData.bool.injEq, PyData.tuple.injEq, PyData.list.injEq, PyData.str.injEq, List.cons.injEq, and_true, if_tt, if_ff, Option.bind_none, Option.getD_none, Option.getD_some, Int.sub_zero, Int.zero_add, and_assoc, true_and, exists_const, Nat.reduceAdd, Nat.reduceLT, Nat.reduceSub, Nat.zero_add]
  refine ⟨pr, pk, ss, rfl, hplan, fun rest => ?_⟩
  simp only [r_nil, r_set, r_unp, r_par, r_ix1, r_ix2, r_ixp, r_ixe, r_app, r_ext, r_expr, r_ret, r_retv, r_retN, r_if, r_for, r_while, r_pass, r_brk, r_cont, q_sim, q_bin, q_neg, q_cmp, q_isN, q_notN, q_chain, q_and, q_or, q_and1, q_and2, q_or1, q_or2, q_not, q_ite, q_tup, q_lst, q_idx, q_slice, q_rev, q_blt1, q_bltv, q_blt2, q_sortset, q_lrng, q_lc, q_pop, q_index, q_es0, q_es1, q_o0, q_o1, q_c0, q_c1, q_seq, q_rng, q_enum, q_zip, g_name, g_tup, g_t0, g_t1, o_add, o_sub, o_mul, o_fdiv, o_mod, o_pow, f_d, f_nil, c_lt, c_le, c_gt, c_ge, c_eq, c_ne, at0, at1, at2, ix0, ix1, ix2, v_var, v_int, v_str, v_bl, v_non, v_glob, v_add, v_sub, v_neg, v_idx, v_len, onV_d, onV_scr, onW_d, onW_scr, onW_own, simR, sv, frzT, E.sim?, E.var?, SE.var?, Tv.item, Tv.len, PyData.itemsOf, List.map_cons, List.map_nil, List.replicate, List.cons_append, List.nil_append, List.length_cons, List.length_nil, List.set_cons_zero, List.set_cons_succ, List.getElem?_cons_zero, List.getElem?_cons_succ, Option.join_some, Option.some.injEq, Option.map_some, exists_eq', exists_eq, exists_eq_left', exists_eq_left, exists_and_left, Option.bind_some, Option.bind_eq_bind, Option.pure_def, wipeR, restR, keepD, Tv.d.injEq, Tv.own.injEq, PyData.int.injEq, PyData.bool.injEq, PyData.tuple.injEq, PyData.list.injEq, PyData.str.injEq, List.cons.injEq, and_true, if_tt, if_ff, Option.bind_none, Option.getD_none, Option.getD_some, Int.sub_zero, Int.zero_add, and_assoc, true_and, exists_const, Nat.reduceAdd, Nat.reduceLT, Nat.reduceSub, Nat.zero_add]
  have hall := plays_all hplan
  have hlen := plays_len hplan
  generalize playsL ss = pl at hall hlen hq ⊢
  refine ⟨fun j acc ρ => acc = (((pl.take j).filter (packIs p)).map sideD).map Tv.d ∧ ρ = [some (.d (planD pr pk ss)), some (.d (.int p)), none, none, none], ⟨rfl, rfl⟩, ?_, ?_⟩
  · rintro j y acc ρ2 hy ⟨rfl, rfl⟩
    have hj := (List.getElem?_eq_some_iff.mp hy).1
    have hfl := List.length_filter_le (packIs p) (pl.take j)
    rw [List.length_take] at hfl
    obtain ⟨q, n, e, rfl, b1, b2, b3, b4, b5, b6⟩ := hall y (List.mem_of_getElem? hy)
    simp only [tripD, List.length_map, r_nil, r_cons, r_set, r_unp, r_par, r_ix1, r_ix2, r_ixp, r_ixe, r_app, r_ext, r_expr, r_ret, r_retv, r_retN, r_if, r_for, r_while, r_pass, r_brk, r_cont, q_sim, q_bin, q_neg, q_cmp, q_isN, q_notN, q_chain, q_and, q_or, q_and1, q_and2, q_or1, q_or2, q_not, q_ite, q_tup, q_lst, q_idx, q_slice, q_rev, q_blt1, q_bltv, q_blt2, q_sortset, q_lrng, q_lc, q_pop, q_index, q_es0, q_es1, q_o0, q_o1, q_c0, q_c1, q_seq, q_rng, q_enum, q_zip, g_name, g_tup, g_t0, g_t1, o_add, o_sub, o_mul, o_fdiv, o_mod, o_pow, f_d, f_nil, c_lt, c_le, c_gt, c_ge, c_eq, c_ne, at0, at1, at2, ix0, ix1, ix2, v_var, v_int, v_str, v_bl, v_non, v_glob, v_add, v_sub, v_neg, v_idx, v_len, onV_d, onV_scr, onW_d, onW_scr, onW_own, simR, sv, frzT, E.sim?, E.var?, SE.var?, Tv.item, Tv.len, PyData.itemsOf, List.map_cons, List.map_nil, List.replicate, List.cons_append, List.nil_append, List.length_cons, List.length_nil, List.set_cons_zero, List.set_cons_succ, List.getElem?_cons_zero, List.getElem?_cons_succ, Option.join_some, Option.some.injEq, Option.map_some, exists_eq', exists_eq, exists_eq_left', exists_eq_left, exists_and_left, Option.bind_some, Option.bind_eq_bind, Option.pure_def, wipeR, restR, keepD, Tv.d.injEq, Tv.own.injEq, PyData.int.injEq, PyData.bool.injEq, PyData.tuple.injEq, PyData.list.injEq, PyData.str.injEq, List.cons.injEq, and_true, if_tt, if_ff, Option.bind_none, Option.getD_none, Option.getD_some, Int.sub_zero, Int.zero_add, and_assoc, true_and, exists_const, Nat.reduceAdd, Nat.reduceLT, Nat.reduceSub, Nat.zero_add]
    refine ⟨fun hb => ⟨_, fz2, small64 (by omega), ?_⟩, fun hb => ?_⟩
    · rw [filter_st (packIs p) hy hb, List.map_append, List.map_append]
      rfl
    · rw [filter_sf (packIs p) hy hb]
  · rintro acc ρ2 ⟨rfl, rfl⟩
    simp only [List.take_length, r_nil, r_cons, r_set, r_unp, r_par, r_ix1, r_ix2, r_ixp, r_ixe, r_app, r_ext, r_expr, r_ret, r_retv, r_retN, r_if, r_for, r_while, r_pass, r_brk, r_cont, q_sim, q_bin, q_neg, q_cmp, q_isN, q_notN, q_chain, q_and, q_or, q_and1, q_and2, q_or1, q_or2, q_not, q_ite, q_tup, q_lst, q_idx, q_slice, q_rev, q_blt1, q_bltv, q_blt2, q_sortset, q_lrng, q_lc, q_pop, q_index, q_es0, q_es1, q_o0, q_o1, q_c0, q_c1, q_seq, q_rng, q_enum, q_zip, g_name, g_tup, g_t0, g_t1, o_add, o_sub, o_mul, o_fdiv, o_mod, o_pow, f_d, f_nil, c_lt, c_le, c_gt, c_ge, c_eq, c_ne, at0, at1, at2, ix0, ix1, ix2, v_var, v_int, v_str, v_bl, v_non, v_glob, v_add, v_sub, v_neg, v_idx, v_len, onV_d, onV_scr, onW_d, onW_scr, onW_own, simR, sv, frzT, E.sim?, E.var?, SE.var?, Tv.item, Tv.len, PyData.itemsOf, List.map_cons, List.map_nil, List.replicate, List.cons_append, List.nil_append, List.length_cons, List.length_nil, List.set_cons_zero, List.set_cons_succ, List.getElem?_cons_zero, List.getElem?_cons_succ, Option.join_some, Option.some.injEq, Option.map_some, exists_eq', exists_eq, exists_eq_left', exists_eq_left, exists_and_left, Option.bind_some, Option.bind_eq_bind, Option.pure_def, wipeR, restR, keepD, Tv.d.injEq, Tv.own.injEq, PyData.int.injEq, PyData.bool.injEq, PyData.tuple.injEq, PyData.list.injEq, PyData.str.injEq, List.cons.injEq, and_true, if_tt, if_ff, Option.bind_none, Option.getD_none, Option.getD_some, Int.sub_zero, Int.zero_add, and_assoc, true_and, exists_const, Nat.reduceAdd, Nat.reduceLT, Nat.reduceSub, Nat.zero_add]
    exact hq _
def fePlaysOf : FE := ⟨["plan", "pack"], [], none, spPlaysOf⟩
theorem b_len {x : Tv} {n : Nat} {R : Tv → Prop} (h : x.len = some n) (q : R (.d (.int (n : Nat)))) : bltO .len [x] R := ⟨x, n, rfl, h, q⟩
theorem len_own {α : Type} (f : α → Tv) (l : List α) : (Tv.own (l.map f)).len = some l.length := by
  show some (l.map f).length = _
  rw [List.length_map]
def heldN (p : Int) (pl : List PyData) : Int := ((pl.filter (packIs p)).length : Nat)
def spHeld : FS := fun xs Q => ∃ pr pk ss, ∃ p : Int, xs = [.d (planD pr pk ss), .d (.int p)] ∧ PlanOk pr pk ss ∧ ∀ rest, Q (.d (.int (heldN p (playsL ss)))) rest
theorem ok_held {Γ : Gam} {Φ : Phi} (hP : Φ "plays_of" = some fePlaysOf) : ∀ xs Q, spHeld xs Q → fsOf Γ Φ 2 2 bHeld xs Q := by
  rintro xs Q ⟨pr, pk, ss, p, rfl, hplan, hq⟩
  refine ⟨rfl, ?_⟩
  rw [bHeld, r_cons]
  simp only [q_call hP rfl, args22, fePlaysOf, r_nil, r_set, r_unp, r_par, r_ix1, r_ix2, r_ixp, r_ixe, r_app, r_ext, r_expr, r_ret, r_retv, r_retN, r_if, r_for, r_while, r_pass, r_brk, r_cont, q_sim, q_bin, q_neg, q_cmp, q_isN, q_notN, q_chain, q_and, q_or, q_and1, q_and2, q_or1, q_or2, q_not, q_ite, q_tup, q_lst, q_idx, q_slice, q_rev, q_blt1, q_bltv, q_blt2, q_sortset, q_lrng, q_lc, q_pop, q_index, q_es0, q_es1, q_o0, q_o1, q_c0, q_c1, q_seq, q_rng, q_enum, q_zip, g_name, g_tup, g_t0, g_t1, o_add, o_sub, o_mul, o_fdiv, o_mod, o_pow, f_d, f_nil, c_lt, c_le, c_gt, c_ge, c_eq, c_ne, at0, at1, at2, ix0, ix1, ix2, v_var, v_int, v_str, v_bl, v_non, v_glob, v_add, v_sub, v_neg, v_idx, v_len, onV_d, onV_scr, onW_d, onW_scr, onW_own, simR, sv, frzT, E.sim?, E.var?, SE.var?, Tv.item, Tv.len, PyData.itemsOf, List.map_cons, List.map_nil, List.replicate, List.cons_append, List.nil_append, List.length_cons, List.length_nil, List.set_cons_zero, List.set_cons_succ, List.getElem?_cons_zero, List.getElem?_cons_succ, Option.join_some, Option.some.injEq, Option.map_some, exists_eq', exists_eq, exists_eq_left', exists_eq_left, exists_and_left, Option.bind_some, Option.bind_eq_bind, Option.pure_def, wipeR, restR, keepD, Tv.d.injEq, Tv.own.injEq, PyData.int.injEq, PyData.bool.injEq, PyData.tuple.injEq, PyData.list.injEq, PyData.str.injEq, List.cons.injEq, and_true, if_tt, if_ff, Option.bind_none, Option.getD_none, Option.getD_some, Int.sub_zero, Int.zero_add, and_assoc, true_and, exists_const, Nat.reduceAdd, Nat.reduceLT, Nat.reduceSub, Nat.zero_add]
  refine ⟨pr, pk, ss, p, rfl, hplan, fun rest => ?_⟩
  simp only [r_nil, r_cons, r_set, r_unp, r_par, r_ix1, r_ix2, r_ixp, r_ixe, r_app, r_ext, r_expr, r_ret, r_retv, r_retN, r_if, r_for, r_while, r_pass, r_brk, r_cont, q_sim, q_bin, q_neg, q_cmp, q_isN, q_notN, q_chain, q_and, q_or, q_and1, q_and2, q_or1, q_or2, q_not, q_ite, q_tup, q_lst, q_idx, q_slice, q_rev, q_blt1, q_bltv, q_blt2, q_sortset, q_lrng, q_lc, q_pop, q_index, q_es0, q_es1, q_o0, q_o1, q_c0, q_c1, q_seq, q_rng, q_enum, q_zip, g_name, g_tup, g_t0, g_t1, o_add, o_sub, o_mul, o_fdiv, o_mod, o_pow, f_d, f_nil, c_lt, c_le, c_gt, c_ge, c_eq, c_ne, at0, at1, at2, ix0, ix1, ix2, v_var, v_int, v_str, v_bl, v_non, v_glob, v_add, v_sub, v_neg, v_idx, v_len, onV_d, onV_scr, onW_d, onW_scr, onW_own, simR, sv, frzT, E.sim?, E.var?, SE.var?, Tv.item, Tv.len, PyData.itemsOf, List.map_cons, List.map_nil, List.replicate, List.cons_append, List.nil_append, List.length_cons, List.length_nil, List.set_cons_zero, List.set_cons_succ, List.getElem?_cons_zero, List.getElem?_cons_succ, Option.join_some, Option.some.injEq, Option.map_some, exists_eq', exists_eq, exists_eq_left', exists_eq_left, exists_and_left, Option.bind_some, Option.bind_eq_bind, Option.pure_def, wipeR, restR, keepD, Tv.d.injEq, Tv.own.injEq, PyData.int.injEq, PyData.bool.injEq, PyData.tuple.injEq, PyData.list.injEq, PyData.str.injEq, List.cons.injEq, and_true, if_tt, if_ff, Option.bind_none, Option.getD_none, Option.getD_some, Int.sub_zero, Int.zero_add, and_assoc, true_and, exists_const, Nat.reduceAdd, Nat.reduceLT, Nat.reduceSub, Nat.zero_add]
  refine b_len (len_own _ _) ?_
  rw [List.length_map]
  exact hq _
def metB (a b : Int) (t : PyData) : Bool := sideIs a t && sideIs b t
def metN (a b : Int) (pl : List PyData) : Int := ((pl.filter (metB a b)).length : Nat)
def spMet : FS := fun xs Q => ∃ pr pk ss, ∃ a b : Int, xs = [.d (planD pr pk ss), .d (.int a), .d (.int b)] ∧ PlanOk pr pk ss ∧ ∀ rest, Q (.d (.int (metN a b (playsL ss)))) rest
theorem any2 (a n e : Int) : ([PyData.int n, PyData.int e].any fun y => PyData.eqv y (.int a)) = (a == n || a == e) := by
  show ((n == a) || ((e == a) || false)) = _
  rw [Bool.or_false, Bool.beq_comm, Bool.beq_comm (a := e)]
theorem ok_met {Γ : Gam} {Φ : Phi} (hP : Φ "plays" = some fePlays) : ∀ xs Q, spMet xs Q → fsOf Γ Φ 3 6 bMet xs Q := by
  rintro xs Q ⟨pr, pk, ss, a, b, rfl, hplan, hq⟩
  refine ⟨rfl, ?_⟩
  rw [bMet, r_cons]
  simp only [q_call hP rfl, args1, fePlays, r_nil, r_set, r_unp, r_par, r_ix1, r_ix2, r_ixp, r_ixe, r_app, r_ext, r_expr, r_ret, r_retv, r_retN, r_if, r_for, r_while, r_pass, r_brk, r_cont, q_sim, q_bin, q_neg, q_cmp, q_isN, q_notN, q_chain, q_and, q_or, q_and1, q_and2, q_or1, q_or2, q_not, q_ite, q_tup, q_lst, q_idx, q_slice, q_rev, q_blt1, q_bltv, q_blt2, q_sortset, q_lrng, q_lc, q_pop, q_index, q_es0, q_es1, q_o0, q_o1, q_c0, q_c1, q_seq, q_rng, q_enum, q_zip, g_name, g_tup, g_t0, g_t1, o_add, o_sub, o_mul, o_fdiv, o_mod, o_pow, f_d, f_nil, c_lt, c_le, c_gt, c_ge, c_eq, c_ne, at0, at1, at2, ix0, ix1, ix2, v_var, v_int, v_str, v_bl, v_non, v_glob, v_add, v_sub, v_neg, v_idx, v_len, onV_d, onV_scr, onW_d, onW_scr, onW_own, simR, sv, frzT, E.sim?, E.var?, SE.var?, Tv.item, Tv.len, PyData.itemsOf, List.map_cons, List.map_nil, List.replicate, List.cons_append, List.nil_append, List.length_cons, List.length_nil, List.set_cons_zero, List.set_cons_succ, List.getElem?_cons_zero, List.getElem?_cons_succ, Option.join_some, Option.some.injEq, Option.map_some, exists_eq', exists_eq, exists_eq_left', exists_eq_left, exists_and_left, Option.bind_some, Option.bind_eq_bind, Option.pure_def, wipeR, restR, keepD, Tv.d.injEq, Tv.own.injEq, PyData.int.injEq, PyData.bool.injEq, PyData.tuple.injEq, PyData.list.injEq, PyData.str.injEq, List.cons.injEq, and_true, if_tt, if_ff, Option.bind_none, Option.getD_none, Option.getD_some, Int.sub_zero, Int.zero_add, and_assoc, true_and, exists_const, Nat.reduceAdd, Nat.reduceLT, Nat.reduceSub, Nat.zero_add]
  refine ⟨pr, pk, ss, rfl, hplan, fun rest => ?_⟩
  simp only [r_nil, r_set, r_unp, r_par, r_ix1, r_ix2, r_ixp, r_ixe, r_app, r_ext, r_expr, r_ret, r_retv, r_retN, r_if, r_for, r_while, r_pass, r_brk, r_cont, q_sim, q_bin, q_neg, q_cmp, q_isN, q_notN, q_chain, q_and, q_or, q_and1, q_and2, q_or1, q_or2, q_not, q_ite, q_tup, q_lst, q_idx, q_slice, q_rev, q_blt1, q_bltv, q_blt2, q_sortset, q_lrng, q_lc, q_pop, q_index, q_es0, q_es1, q_o0, q_o1, q_c0, q_c1, q_seq, q_rng, q_enum, q_zip, g_name, g_tup, g_t0, g_t1, o_add, o_sub, o_mul, o_fdiv, o_mod, o_pow, f_d, f_nil, c_lt, c_le, c_gt, c_ge, c_eq, c_ne, at0, at1, at2, ix0, ix1, ix2, v_var, v_int, v_str, v_bl, v_non, v_glob, v_add, v_sub, v_neg, v_idx, v_len, onV_d, onV_scr, onW_d, onW_scr, onW_own, simR, sv, frzT, E.sim?, E.var?, SE.var?, Tv.item, Tv.len, PyData.itemsOf, List.map_cons, List.map_nil, List.replicate, List.cons_append, List.nil_append, List.length_cons, List.length_nil, List.set_cons_zero, List.set_cons_succ, List.getElem?_cons_zero, List.getElem?_cons_succ, Option.join_some, Option.some.injEq, Option.map_some, exists_eq', exists_eq, exists_eq_left', exists_eq_left, exists_and_left, Option.bind_some, Option.bind_eq_bind, Option.pure_def, wipeR, restR, keepD, Tv.d.injEq, Tv.own.injEq, PyData.int.injEq, PyData.bool.injEq, PyData.tuple.injEq, PyData.list.injEq, PyData.str.injEq, List.cons.injEq, and_true, if_tt, if_ff, Option.bind_none, Option.getD_none, Option.getD_some, Int.sub_zero, Int.zero_add, and_assoc, true_and, exists_const, Nat.reduceAdd, Nat.reduceLT, Nat.reduceSub, Nat.zero_add]
  have hall := plays_all hplan
  have hlen := plays_len hplan
  unfold metN at hq
  generalize playsL ss = pl at hall hlen hq ⊢
  refine ⟨fun j acc ρ => acc = (((pl.take j).filter (metB a b)).map fun _ => PyData.int 1).map Tv.d ∧ ρ = [some (.d (planD pr pk ss)), some (.d (.int a)), some (.d (.int b)), none, none, none], ⟨rfl, rfl⟩, ?_, ?_⟩
  · rintro j y acc ρ2 hy ⟨rfl, rfl⟩
    have hj := (List.getElem?_eq_some_iff.mp hy).1
    have hfl := List.length_filter_le (metB a b) (pl.take j)
    rw [List.length_take] at hfl
    obtain ⟨q, n, e, rfl, b1, b2, b3, b4, b5, b6⟩ := hall y (List.mem_of_getElem? hy)
    simp only [tripD, List.length_map, fz2, r_nil, r_cons, r_set, r_unp, r_par, r_ix1, r_ix2, r_ixp, r_ixe, r_app, r_ext, r_expr, r_ret, r_retv, r_retN, r_if, r_for, r_while, r_pass, r_brk, r_cont, q_sim, q_bin, q_neg, q_cmp, q_isN, q_notN, q_chain, q_and, q_or, q_and1, q_and2, q_or1, q_or2, q_not, q_ite, q_tup, q_lst, q_idx, q_slice, q_rev, q_blt1, q_bltv, q_blt2, q_sortset, q_lrng, q_lc, q_pop, q_index, q_es0, q_es1, q_o0, q_o1, q_c0, q_c1, q_seq, q_rng, q_enum, q_zip, g_name, g_tup, g_t0, g_t1, o_add, o_sub, o_mul, o_fdiv, o_mod, o_pow, f_d, f_nil, c_lt, c_le, c_gt, c_ge, c_eq, c_ne, at0, at1, at2, ix0, ix1, ix2, v_var, v_int, v_str, v_bl, v_non, v_glob, v_add, v_sub, v_neg, v_idx, v_len, onV_d, onV_scr, onW_d, onW_scr, onW_own, simR, sv, frzT, E.sim?, E.var?, SE.var?, Tv.item, Tv.len, PyData.itemsOf, List.map_cons, List.map_nil, List.replicate, List.cons_append, List.nil_append, List.length_cons, List.length_nil, List.set_cons_zero, List.set_cons_succ, List.getElem?_cons_zero, List.getElem?_cons_succ, Option.join_some, Option.some.injEq, Option.map_some, exists_eq', exists_eq, exists_eq_left', exists_eq_left, exists_and_left, Option.bind_some, Option.bind_eq_bind, Option.pure_def, wipeR, restR, keepD, Tv.d.injEq, Tv.own.injEq, PyData.int.injEq, PyData.bool.injEq, PyData.tuple.injEq, PyData.list.injEq, PyData.str.injEq, List.cons.injEq, and_true, if_tt, if_ff, Option.bind_none, Option.getD_none, Option.getD_some, Int.sub_zero, Int.zero_add, and_assoc, true_and, exists_const, Nat.reduceAdd, Nat.reduceLT, Nat.reduceSub, Nat.zero_add]
    refine c_inT (shal_int _ _) (shal_int2 _ _ _) ?_
    rw [any2]
    refine if_l (fun h1 => c_inT (shal_int _ _) (shal_int2 _ _ _) ?_) fun h1 => ⟨fun z => (nomatch z), fun _ => ?_⟩
    · rw [any2]
      refine ⟨fun h2 => ⟨small64 (by omega), ?_⟩, fun h2 => ?_⟩
      · rw [filter_st (metB a b) hy (show ((a == n || a == e) && (b == n || b == e)) = true by rw [h1, h2]; rfl), List.map_append, List.map_append]
        rfl
      · rw [filter_sf (metB a b) hy (show ((a == n || a == e) && (b == n || b == e)) = false by rw [h1, h2]; rfl)]
    · rw [filter_sf (metB a b) hy (show ((a == n || a == e) && (b == n || b == e)) = false by rw [h1]; rfl)]
  · rintro acc ρ2 ⟨rfl, rfl⟩
    simp only [List.take_length, r_nil, r_cons, r_set, r_unp, r_par, r_ix1, r_ix2, r_ixp, r_ixe, r_app, r_ext, r_expr, r_ret, r_retv, r_retN, r_if, r_for, r_while, r_pass, r_brk, r_cont, q_sim, q_bin, q_neg, q_cmp, q_isN, q_notN, q_chain, q_and, q_or, q_and1, q_and2, q_or1, q_or2, q_not, q_ite, q_tup, q_lst, q_idx, q_slice, q_rev, q_blt1, q_bltv, q_blt2, q_sortset, q_lrng, q_lc, q_pop, q_index, q_es0, q_es1, q_o0, q_o1, q_c0, q_c1, q_seq, q_rng, q_enum, q_zip, g_name, g_tup, g_t0, g_t1, o_add, o_sub, o_mul, o_fdiv, o_mod, o_pow, f_d, f_nil, c_lt, c_le, c_gt, c_ge, c_eq, c_ne, at0, at1, at2, ix0, ix1, ix2, v_var, v_int, v_str, v_bl, v_non, v_glob, v_add, v_sub, v_neg, v_idx, v_len, onV_d, onV_scr, onW_d, onW_scr, onW_own, simR, sv, frzT, E.sim?, E.var?, SE.var?, Tv.item, Tv.len, PyData.itemsOf, List.map_cons, List.map_nil, List.replicate, List.cons_append, List.nil_append, List.length_cons, List.length_nil, List.set_cons_zero, List.set_cons_succ, List.getElem?_cons_zero, List.getElem?_cons_succ, Option.join_some, Option.some.injEq, Option.map_some, exists_eq', exists_eq, exists_eq_left', exists_eq_left, exists_and_left, Option.bind_some, Option.bind_eq_bind, Option.pure_def, wipeR, restR, keepD, Tv.d.injEq, Tv.own.injEq, PyData.int.injEq, PyData.bool.injEq, PyData.tuple.injEq, PyData.list.injEq, PyData.str.injEq, List.cons.injEq, and_true, if_tt, if_ff, Option.bind_none, Option.getD_none, Option.getD_some, Int.sub_zero, Int.zero_add, and_assoc, true_and, exists_const, Nat.reduceAdd, Nat.reduceLT, Nat.reduceSub, Nat.zero_add]
    refine b_len (len_own _ _) ?_
    rw [List.length_map]
    exact hq _
def packOf : PyData → PyData
  | .tuple (p :: _) => p
  | d => d
def lackB (a : Int) (pl : List PyData) (p : Nat) : Bool := !(((pl.filter (sideIs a)).map packOf).any fun y => PyData.eqv y (.int (p : Nat)))
def lackOne (pk : Int) (pl : List PyData) (a : Nat) : List PyData := ((List.range pk.toNat).filter (lackB (a : Nat) pl)).map fun p => .tuple [.int (a : Nat), .int (p : Nat)]
def lackL (pr pk : Int) (pl : List PyData) : List PyData := (List.range pr.toNat).flatMap (lackOne pk pl)
def spLacking : FS := fun xs Q => ∃ pr pk ss, xs = [.d (planD pr pk ss)] ∧ PlanOk pr pk ss ∧ ∀ rest, Q (.d (.tuple (lackL pr pk (playsL ss)))) rest
theorem packs_in {pr pk : Int} {pl : List PyData} (h : ∀ x ∈ pl, Trip pr pk x) (a : Int) : ∀ y ∈ (pl.filter (sideIs a)).map packOf, ∃ q : Int, y = .int q := fun y hy => by
  obtain ⟨x, hx, rfl⟩ := List.mem_map.mp hy
  obtain ⟨q, n, e, rfl, _⟩ := h x (List.mem_filter.mp hx).1
  exact ⟨q, rfl⟩
theorem c_ninL {a : PyData} {xs : List PyData} {R : Bool → Prop} (h1 : shal 30 a = true) (h2 : xs.all (shal 29) = true) (q : R (!(xs.any fun y => PyData.eqv y a))) : cmpO .nin (.d a) (.own (xs.map .d)) R :=
  ⟨_, _, rfl, f_own, h1, by simpa [shal] using h2, q⟩
theorem lack_len (pk : Int) (pl : List PyData) (a : Nat) : (lackOne pk pl a).length ≤ pk.toNat := by
  unfold lackOne
  rw [List.length_map]
  exact Nat.le_trans (List.length_filter_le _ _) (by simp)
theorem ok_lacking {Γ : Gam} {Φ : Phi} (hP : Φ "plays" = some fePlays) : ∀ xs Q, spLacking xs Q → fsOf Γ Φ 1 8 bLacking xs Q := by
  rintro xs Q ⟨pr, pk, ss, rfl, hplan, hq⟩
  refine ⟨rfl, ?_⟩
  rw [bLacking, r_cons]
  simp only [q_call hP rfl, args1, fePlays, r_nil, r_set, r_unp, r_par, r_ix1, r_ix2, r_ixp, r_ixe, r_app, r_ext, r_expr, r_ret, r_retv, r_retN, r_if, r_for, r_while, r_pass, r_brk, r_cont, q_sim, q_bin, q_neg, q_cmp, q_isN, q_notN, q_chain, q_and, q_or, q_and1, q_and2, q_or1, q_or2, q_not, q_ite, q_tup, q_lst, q_idx, q_slice, q_rev, q_blt1, q_bltv, q_blt2, q_sortset, q_lrng, q_lc, q_pop, q_index, q_es0, q_es1, q_o0, q_o1, q_c0, q_c1, q_seq, q_rng, q_enum, q_zip, g_name, g_tup, g_t0, g_t1, o_add, o_sub, o_mul, o_fdiv, o_mod, o_pow, f_d, f_nil, c_lt, c_le, c_gt, c_ge, c_eq, c_ne, at0, at1, at2, ix0, ix1, ix2, v_var, v_int, v_str, v_bl, v_non, v_glob, v_add, v_sub, v_neg, v_idx, v_len, onV_d, onV_scr, onW_d, onW_scr, onW_own, simR, sv, frzT, E.sim?, E.var?, SE.var?, Tv.item, Tv.len, PyData.itemsOf, List.map_cons, List.map_nil, List.replicate, List.cons_append, List.nil_append, List.length_cons, List.length_nil, List.set_cons_zero, List.set_cons_succ, List.getElem?_cons_zero, List.getElem?_cons_succ, Option.join_some, Option.some.injEq, Option.map_some, exists_eq', exists_eq, exists_eq_left', exists_eq_left, exists_and_left, Option.bind_some, Option.bind_eq_bind, Option.pure_def, wipeR, restR, keepD, Tv.d.injEq, Tv.own.injEq, PyData.int.injEq, PyData.bool.injEq, PyData.tuple.injEq, PyData.list.injEq, PyData.str.injEq, List.cons.injEq, and_true, if_tt, if_ff, Option.bind_none, Option.getD_none, Option.getD_some, Int.sub_zero, Int.zero_add, and_assoc, true_and, exists_const, Nat.reduceAdd, Nat.reduceLT, Nat.reduceSub, Nat.zero_add]
  refine ⟨pr, pk, ss, rfl, hplan, fun rest => ?_⟩
  simp only [List.zip_cons_cons, List.zip_nil_right, List.foldl_cons, List.foldl_nil, r_nil, r_set, r_unp, r_par, r_ix1, r_ix2, r_ixp, r_ixe, r_app, r_ext, r_expr, r_ret, r_retv, r_retN, r_if, r_for, r_while, r_pass, r_brk, r_cont, q_sim, q_bin, q_neg, q_cmp, q_isN, q_notN, q_chain, q_and, q_or, q_and1, q_and2, q_or1, q_or2, q_not, q_ite, q_tup, q_lst, q_idx, q_slice, q_rev, q_blt1, q_bltv, q_blt2, q_sortset, q_lrng, q_lc, q_pop, q_index, q_es0, q_es1, q_o0, q_o1, q_c0, q_c1, q_seq, q_rng, q_enum, q_zip, g_name, g_tup, g_t0, g_t1, o_add, o_sub, o_mul, o_fdiv, o_mod, o_pow, f_d, f_nil, c_lt, c_le, c_gt, c_ge, c_eq, c_ne, at0, at1, at2, ix0, ix1, ix2, v_var, v_int, v_str, v_bl, v_non, v_glob, v_add, v_sub, v_neg, v_idx, v_len, onV_d, onV_scr, onW_d, onW_scr, onW_own, simR, sv, frzT, E.sim?, E.var?, SE.var?, Tv.item, Tv.len, PyData.itemsOf, List.map_cons, List.map_nil, List.replicate, List.cons_append, List.nil_append, List.length_cons, List.length_nil, List.set_cons_zero, List.set_cons_succ, List.getElem?_cons_zero, List.getElem?_cons_succ, Option.join_some, Option.some.injEq, Option.map_some, exists_eq', exists_eq, exists_eq_left', exists_eq_left, exists_and_left, Option.bind_some, Option.bind_eq_bind, Option.pure_def, wipeR, restR, keepD, Tv.d.injEq, Tv.own.injEq, PyData.int.injEq, PyData.bool.injEq, PyData.tuple.injEq, PyData.list.injEq, PyData.str.injEq, List.cons.injEq, and_true, if_tt, if_ff, Option.bind_none, Option.getD_none, Option.getD_some, Int.sub_zero, Int.zero_add, and_assoc, true_and, exists_const, Nat.reduceAdd, Nat.reduceLT, Nat.reduceSub, Nat.zero_add]
  have hall := plays_all hplan
  have hlen := plays_len hplan
  have hp1 := hplan.p1
  have hp2 := hplan.p2
  have hk1 := hplan.k1
  have hk2 := hplan.k2
  generalize playsL ss = pl at hall hlen hq ⊢
  rw [r_cons]
  simp only [planD, r_nil, r_set, r_unp, r_par, r_ix1, r_ix2, r_ixp, r_ixe, r_app, r_ext, r_expr, r_ret, r_retv, r_retN, r_if, r_for, r_while, r_pass, r_brk, r_cont, q_sim, q_bin, q_neg, q_cmp, q_isN, q_notN, q_chain, q_and, q_or, q_and1, q_and2, q_or1, q_or2, q_not, q_ite, q_tup, q_lst, q_idx, q_slice, q_rev, q_blt1, q_bltv, q_blt2, q_sortset, q_lrng, q_lc, q_pop, q_index, q_es0, q_es1, q_o0, q_o1, q_c0, q_c1, q_seq, q_rng, q_enum, q_zip, g_name, g_tup, g_t0, g_t1, o_add, o_sub, o_mul, o_fdiv, o_mod, o_pow, f_d, f_nil, c_lt, c_le, c_gt, c_ge, c_eq, c_ne, at0, at1, at2, ix0, ix1, ix2, v_var, v_int, v_str, v_bl, v_non, v_glob, v_add, v_sub, v_neg, v_idx, v_len, onV_d, onV_scr, onW_d, onW_scr, onW_own, simR, sv, frzT, E.sim?, E.var?, SE.var?, Tv.item, Tv.len, PyData.itemsOf, List.map_cons, List.map_nil, List.replicate, List.cons_append, List.nil_append, List.length_cons, List.length_nil, List.set_cons_zero, List.set_cons_succ, List.getElem?_cons_zero, List.getElem?_cons_succ, Option.join_some, Option.some.injEq, Option.map_some, exists_eq', exists_eq, exists_eq_left', exists_eq_left, exists_and_left, Option.bind_some, Option.bind_eq_bind, Option.pure_def, wipeR, restR, keepD, Tv.d.injEq, Tv.own.injEq, PyData.int.injEq, PyData.bool.injEq, PyData.tuple.injEq, PyData.list.injEq, PyData.str.injEq, List.cons.injEq, and_true, if_tt, if_ff, Option.bind_none, Option.getD_none, Option.getD_some, Int.sub_zero, Int.zero_add, and_assoc, true_and, exists_const, Nat.reduceAdd, Nat.reduceLT, Nat.reduceSub, Nat.zero_add]
  refine ⟨by decide, by decide, by decide, by decide, by omega, by omega, fun k ρ => ρ = [some (.d (planD pr pk ss)), none, some (.d (.tuple pl)), some (.own (((List.range k).flatMap (lackOne pk pl)).map .d)), none, none, none, none], rfl, ?_, ?_⟩
  · rintro k x ρ2 hx rfl
    have hk := (List.getElem?_eq_some_iff.mp hx).1
    simp only [List.length_map, List.length_range] at hk
    simp only [List.getElem?_map, List.getElem?_range hk, Option.map_some, Option.some.injEq] at hx
    subst hx
    simp only [r_nil, r_set, r_unp, r_par, r_ix1, r_ix2, r_ixp, r_ixe, r_app, r_ext, r_expr, r_ret, r_retv, r_retN, r_if, r_for, r_while, r_pass, r_brk, r_cont, q_sim, q_bin, q_neg, q_cmp, q_isN, q_notN, q_chain, q_and, q_or, q_and1, q_and2, q_or1, q_or2, q_not, q_ite, q_tup, q_lst, q_idx, q_slice, q_rev, q_blt1, q_bltv, q_blt2, q_sortset, q_lrng, q_lc, q_pop, q_index, q_es0, q_es1, q_o0, q_o1, q_c0, q_c1, q_seq, q_rng, q_enum, q_zip, g_name, g_tup, g_t0, g_t1, o_add, o_sub, o_mul, o_fdiv, o_mod, o_pow, f_d, f_nil, c_lt, c_le, c_gt, c_ge, c_eq, c_ne, at0, at1, at2, ix0, ix1, ix2, v_var, v_int, v_str, v_bl, v_non, v_glob, v_add, v_sub, v_neg, v_idx, v_len, onV_d, onV_scr, onW_d, onW_scr, onW_own, simR, sv, frzT, E.sim?, E.var?, SE.var?, Tv.item, Tv.len, PyData.itemsOf, List.map_cons, List.map_nil, List.replicate, List.cons_append, List.nil_append, List.length_cons, List.length_nil, List.set_cons_zero, List.set_cons_succ, List.getElem?_cons_zero, List.getElem?_cons_succ, Option.join_some, Option.some.injEq, Option.map_some, exists_eq', exists_eq, exists_eq_left', exists_eq_left, exists_and_left, Option.bind_some, Option.bind_eq_bind, Option.pure_def, wipeR, restR, keepD, Tv.d.injEq, Tv.own.injEq, PyData.int.injEq, PyData.bool.injEq, PyData.tuple.injEq, PyData.list.injEq, PyData.str.injEq, List.cons.injEq, and_true, if_tt, if_ff, Option.bind_none, Option.getD_none, Option.getD_some, Int.sub_zero, Int.zero_add, and_assoc, true_and, exists_const, Nat.reduceAdd, Nat.reduceLT, Nat.reduceSub, Nat.zero_add]
    rw [r_cons]
    simp only [r_nil, r_set, r_unp, r_par, r_ix1, r_ix2, r_ixp, r_ixe, r_app, r_ext, r_expr, r_ret, r_retv, r_retN, r_if, r_for, r_while, r_pass, r_brk, r_cont, q_sim, q_bin, q_neg, q_cmp, q_isN, q_notN, q_chain, q_and, q_or, q_and1, q_and2, q_or1, q_or2, q_not, q_ite, q_tup, q_lst, q_idx, q_slice, q_rev, q_blt1, q_bltv, q_blt2, q_sortset, q_lrng, q_lc, q_pop, q_index, q_es0, q_es1, q_o0, q_o1, q_c0, q_c1, q_seq, q_rng, q_enum, q_zip, g_name, g_tup, g_t0, g_t1, o_add, o_sub, o_mul, o_fdiv, o_mod, o_pow, f_d, f_nil, c_lt, c_le, c_gt, c_ge, c_eq, c_ne, at0, at1, at2, ix0, ix1, ix2, v_var, v_int, v_str, v_bl, v_non, v_glob, v_add, v_sub, v_neg, v_idx, v_len, onV_d, onV_scr, onW_d, onW_scr, onW_own, simR, sv, frzT, E.sim?, E.var?, SE.var?, Tv.item, Tv.len, PyData.itemsOf, List.map_cons, List.map_nil, List.replicate, List.cons_append, List.nil_append, List.length_cons, List.length_nil, List.set_cons_zero, List.set_cons_succ, List.getElem?_cons_zero, List.getElem?_cons_succ, Option.join_some, Option.some.injEq, Option.map_some, exists_eq', exists_eq, exists_eq_left', exists_eq_left, exists_and_left, Option.bind_some, Option.bind_eq_bind, Option.pure_def, wipeR, restR, keepD, Tv.d.injEq, Tv.own.injEq, PyData.int.injEq, PyData.bool.injEq, PyData.tuple.injEq, PyData.list.injEq, PyData.str.injEq, List.cons.injEq, and_true, if_tt, if_ff, Option.bind_none, Option.getD_none, Option.getD_some, Int.sub_zero, Int.zero_add, and_assoc, true_and, exists_const, Nat.reduceAdd, Nat.reduceLT, Nat.reduceSub, Nat.zero_add]
    refine ⟨fun j acc ρ => acc = (((pl.take j).filter (sideIs (k : Nat))).map packOf).map Tv.d ∧ ρ = [some (.d (planD pr pk ss)), some (.d (.int (k : Nat))), some (.d (.tuple pl)), some (.own (((List.range k).flatMap (lackOne pk pl)).map .d)), none, none, none, none], ⟨rfl, rfl⟩, ?_, ?_⟩
    · rintro j y acc ρ2 hy ⟨rfl, rfl⟩
      have hj := (List.getElem?_eq_some_iff.mp hy).1
      have hfl := List.length_filter_le (sideIs (k : Nat)) (pl.take j)
      rw [List.length_take] at hfl
      obtain ⟨q, n, e, rfl, b1, b2, b3, b4, b5, b6⟩ := hall y (List.mem_of_getElem? hy)
      simp only [tripD, List.length_map, fz2, r_nil, r_cons, r_set, r_unp, r_par, r_ix1, r_ix2, r_ixp, r_ixe, r_app, r_ext, r_expr, r_ret, r_retv, r_retN, r_if, r_for, r_while, r_pass, r_brk, r_cont, q_sim, q_bin, q_neg, q_cmp, q_isN, q_notN, q_chain, q_and, q_or, q_and1, q_and2, q_or1, q_or2, q_not, q_ite, q_tup, q_lst, q_idx, q_slice, q_rev, q_blt1, q_bltv, q_blt2, q_sortset, q_lrng, q_lc, q_pop, q_index, q_es0, q_es1, q_o0, q_o1, q_c0, q_c1, q_seq, q_rng, q_enum, q_zip, g_name, g_tup, g_t0, g_t1, o_add, o_sub, o_mul, o_fdiv, o_mod, o_pow, f_d, f_nil, c_lt, c_le, c_gt, c_ge, c_eq, c_ne, at0, at1, at2, ix0, ix1, ix2, v_var, v_int, v_str, v_bl, v_non, v_glob, v_add, v_sub, v_neg, v_idx, v_len, onV_d, onV_scr, onW_d, onW_scr, onW_own, simR, sv, frzT, E.sim?, E.var?, SE.var?, Tv.item, Tv.len, PyData.itemsOf, List.map_cons, List.map_nil, List.replicate, List.cons_append, List.nil_append, List.length_cons, List.length_nil, List.set_cons_zero, List.set_cons_succ, List.getElem?_cons_zero, List.getElem?_cons_succ, Option.join_some, Option.some.injEq, Option.map_some, exists_eq', exists_eq, exists_eq_left', exists_eq_left, exists_and_left, Option.bind_some, Option.bind_eq_bind, Option.pure_def, wipeR, restR, keepD, Tv.d.injEq, Tv.own.injEq, PyData.int.injEq, PyData.bool.injEq, PyData.tuple.injEq, PyData.list.injEq, PyData.str.injEq, List.cons.injEq, and_true, if_tt, if_ff, Option.bind_none, Option.getD_none, Option.getD_some, Int.sub_zero, Int.zero_add, and_assoc, true_and, exists_const, Nat.reduceAdd, Nat.reduceLT, Nat.reduceSub, Nat.zero_add]
      refine c_inT (shal_int _ _) (shal_int2 _ _ _) ?_
      rw [any2]
      refine ⟨fun h2 => ⟨small64 (by omega), ?_⟩, fun h2 => ?_⟩
      · rw [filter_st (sideIs (k : Nat)) hy h2, List.map_append, List.map_append]
        rfl
      · rw [filter_sf (sideIs (k : Nat)) hy h2]
    rintro acc ρ2 ⟨rfl, rfl⟩
    simp only [List.take_length, planD, at1, r_nil, r_cons, r_set, r_unp, r_par, r_ix1, r_ix2, r_ixp, r_ixe, r_app, r_ext, r_expr, r_ret, r_retv, r_retN, r_if, r_for, r_while, r_pass, r_brk, r_cont, q_sim, q_bin, q_neg, q_cmp, q_isN, q_notN, q_chain, q_and, q_or, q_and1, q_and2, q_or1, q_or2, q_not, q_ite, q_tup, q_lst, q_idx, q_slice, q_rev, q_blt1, q_bltv, q_blt2, q_sortset, q_lrng, q_lc, q_pop, q_index, q_es0, q_es1, q_o0, q_o1, q_c0, q_c1, q_seq, q_rng, q_enum, q_zip, g_name, g_tup, g_t0, g_t1, o_add, o_sub, o_mul, o_fdiv, o_mod, o_pow, f_d, f_nil, c_lt, c_le, c_gt, c_ge, c_eq, c_ne, at0, at1, at2, ix0, ix1, ix2, v_var, v_int, v_str, v_bl, v_non, v_glob, v_add, v_sub, v_neg, v_idx, v_len, onV_d, onV_scr, onW_d, onW_scr, onW_own, simR, sv, frzT, E.sim?, E.var?, SE.var?, Tv.item, Tv.len, PyData.itemsOf, List.map_cons, List.map_nil, List.replicate, List.cons_append, List.nil_append, List.length_cons, List.length_nil, List.set_cons_zero, List.set_cons_succ, List.getElem?_cons_zero, List.getElem?_cons_succ, Option.join_some, Option.some.injEq, Option.map_some, exists_eq', exists_eq, exists_eq_left', exists_eq_left, exists_and_left, Option.bind_some, Option.bind_eq_bind, Option.pure_def, wipeR, restR, keepD, Tv.d.injEq, Tv.own.injEq, PyData.int.injEq, PyData.bool.injEq, PyData.tuple.injEq, PyData.list.injEq, PyData.str.injEq, List.cons.injEq, and_true, if_tt, if_ff, Option.bind_none, Option.getD_none, Option.getD_some, Int.sub_zero, Int.zero_add, and_assoc, true_and, exists_const, Nat.reduceAdd, Nat.reduceLT, Nat.reduceSub, Nat.zero_add]
    have hin := packs_in hall (k : Nat)
    have hsh : ((pl.filter (sideIs (k : Nat))).map packOf).all (shal 29) = true := List.all_eq_true.mpr fun y hy => by
      obtain ⟨q, rfl⟩ := hin y hy
      rfl
    refine ⟨by decide, by decide, by omega, by omega, fun j acc ρ => acc = (((List.range j).filter (lackB (k : Nat) pl)).map fun p => PyData.tuple [.int (k : Nat), .int (p : Nat)]).map Tv.d ∧ ρ = [some (.d (planD pr pk ss)), some (.d (.int (k : Nat))), some (.d (.tuple pl)), some (.own (((List.range k).flatMap (lackOne pk pl)).map .d)), some (.own (((pl.filter (sideIs (k : Nat))).map packOf).map .d)), none, none, none], ⟨rfl, rfl⟩, ?_, ?_⟩
    · rintro j y acc ρ2 hy ⟨rfl, rfl⟩
      have hj := (List.getElem?_eq_some_iff.mp hy).1
      simp only [List.length_map, List.length_range] at hj
      simp only [List.getElem?_map, List.getElem?_range hj, Option.map_some, Option.some.injEq] at hy
      subst hy
      simp only [fz2, r_nil, r_cons, r_set, r_unp, r_par, r_ix1, r_ix2, r_ixp, r_ixe, r_app, r_ext, r_expr, r_ret, r_retv, r_retN, r_if, r_for, r_while, r_pass, r_brk, r_cont, q_sim, q_bin, q_neg, q_cmp, q_isN, q_notN, q_chain, q_and, q_or, q_and1, q_and2, q_or1, q_or2, q_not, q_ite, q_tup, q_lst, q_idx, q_slice, q_rev, q_blt1, q_bltv, q_blt2, q_sortset, q_lrng, q_lc, q_pop, q_index, q_es0, q_es1, q_o0, q_o1, q_c0, q_c1, q_seq, q_rng, q_enum, q_zip, g_name, g_tup, g_t0, g_t1, o_add, o_sub, o_mul, o_fdiv, o_mod, o_pow, f_d, f_nil, c_lt, c_le, c_gt, c_ge, c_eq, c_ne, at0, at1, at2, ix0, ix1, ix2, v_var, v_int, v_str, v_bl, v_non, v_glob, v_add, v_sub, v_neg, v_idx, v_len, onV_d, onV_scr, onW_d, onW_scr, onW_own, simR, sv, frzT, E.sim?, E.var?, SE.var?, Tv.item, Tv.len, PyData.itemsOf, List.map_cons, List.map_nil, List.replicate, List.cons_append, List.nil_append, List.length_cons, List.length_nil, List.set_cons_zero, List.set_cons_succ, List.getElem?_cons_zero, List.getElem?_cons_succ, Option.join_some, Option.some.injEq, Option.map_some, exists_eq', exists_eq, exists_eq_left', exists_eq_left, exists_and_left, Option.bind_some, Option.bind_eq_bind, Option.pure_def, wipeR, restR, keepD, Tv.d.injEq, Tv.own.injEq, PyData.int.injEq, PyData.bool.injEq, PyData.tuple.injEq, PyData.list.injEq, PyData.str.injEq, List.cons.injEq, and_true, if_tt, if_ff, Option.bind_none, Option.getD_none, Option.getD_some, Int.sub_zero, Int.zero_add, and_assoc, true_and, exists_const, Nat.reduceAdd, Nat.reduceLT, Nat.reduceSub, Nat.zero_add]
      refine c_ninL (shal_int _ _) hsh ?_
      have hfl := List.length_filter_le (lackB (k : Nat) pl) (List.range j)
      rw [List.length_range] at hfl
      refine ⟨fun h2 => ⟨by rw [List.length_map, List.length_map]; exact small64 (by omega), ?_⟩, fun h2 => ?_⟩
      · rw [List.range_succ, List.filter_append, List.map_append, List.map_append]
        have e : [j].filter (lackB (k : Nat) pl) = [j] := List.filter_eq_self.mpr fun z hz => by rw [List.mem_singleton.mp hz]; exact h2
        rw [e]
        rfl
      · rw [List.range_succ, List.filter_append]
        have e : [j].filter (lackB (k : Nat) pl) = [] := List.filter_eq_nil_iff.mpr fun z hz => by rw [List.mem_singleton.mp hz]; exact fun w => Bool.noConfusion (h2.symm.trans w)
        rw [e, List.append_nil]
    rintro acc ρ2 ⟨rfl, rfl⟩
    simp only [f_own, List.length_map, List.length_range, r_nil, r_cons, r_set, r_unp, r_par, r_ix1, r_ix2, r_ixp, r_ixe, r_app, r_ext, r_expr, r_ret, r_retv, r_retN, r_if, r_for, r_while, r_pass, r_brk, r_cont, q_sim, q_bin, q_neg, q_cmp, q_isN, q_notN, q_chain, q_and, q_or, q_and1, q_and2, q_or1, q_or2, q_not, q_ite, q_tup, q_lst, q_idx, q_slice, q_rev, q_blt1, q_bltv, q_blt2, q_sortset, q_lrng, q_lc, q_pop, q_index, q_es0, q_es1, q_o0, q_o1, q_c0, q_c1, q_seq, q_rng, q_enum, q_zip, g_name, g_tup, g_t0, g_t1, o_add, o_sub, o_mul, o_fdiv, o_mod, o_pow, f_d, f_nil, c_lt, c_le, c_gt, c_ge, c_eq, c_ne, at0, at1, at2, ix0, ix1, ix2, v_var, v_int, v_str, v_bl, v_non, v_glob, v_add, v_sub, v_neg, v_idx, v_len, onV_d, onV_scr, onW_d, onW_scr, onW_own, simR, sv, frzT, E.sim?, E.var?, SE.var?, Tv.item, Tv.len, PyData.itemsOf, List.map_cons, List.map_nil, List.replicate, List.cons_append, List.nil_append, List.length_cons, List.length_nil, List.set_cons_zero, List.set_cons_succ, List.getElem?_cons_zero, List.getElem?_cons_succ, Option.join_some, Option.some.injEq, Option.map_some, exists_eq', exists_eq, exists_eq_left', exists_eq_left, exists_and_left, Option.bind_some, Option.bind_eq_bind, Option.pure_def, wipeR, restR, keepD, Tv.d.injEq, Tv.own.injEq, PyData.int.injEq, PyData.bool.injEq, PyData.tuple.injEq, PyData.list.injEq, PyData.str.injEq, List.cons.injEq, and_true, if_tt, if_ff, Option.bind_none, Option.getD_none, Option.getD_some, Int.sub_zero, Int.zero_add, and_assoc, true_and, exists_const, Nat.reduceAdd, Nat.reduceLT, Nat.reduceSub, Nat.zero_add]
    have hl1 := flat_len (lackOne pk pl) pk.toNat (lack_len pk pl) (List.range k)
    rw [List.length_range] at hl1
    have hl2 := List.length_filter_le (lackB (k : Nat) pl) (List.range pk.toNat)
    rw [List.length_range] at hl2
    have hl3 : pk.toNat * k ≤ 10 * 10 := Nat.mul_le_mul (by omega) (by omega)
    refine ⟨by rw [sizeLine_eq]; omega, rfl, ?_⟩
    rw [List.range_succ, List.flatMap_append, List.map_append, List.flatMap_cons, List.flatMap_nil, List.append_nil]
    rfl
  · rintro ρ2 rfl
    simp only [List.length_map, List.length_range, f_own, b_tuple, b_tupleL, r_nil, r_cons, r_set, r_unp, r_par, r_ix1, r_ix2, r_ixp, r_ixe, r_app, r_ext, r_expr, r_ret, r_retv, r_retN, r_if, r_for, r_while, r_pass, r_brk, r_cont, q_sim, q_bin, q_neg, q_cmp, q_isN, q_notN, q_chain, q_and, q_or, q_and1, q_and2, q_or1, q_or2, q_not, q_ite, q_tup, q_lst, q_idx, q_slice, q_rev, q_blt1, q_bltv, q_blt2, q_sortset, q_lrng, q_lc, q_pop, q_index, q_es0, q_es1, q_o0, q_o1, q_c0, q_c1, q_seq, q_rng, q_enum, q_zip, g_name, g_tup, g_t0, g_t1, o_add, o_sub, o_mul, o_fdiv, o_mod, o_pow, f_d, f_nil, c_lt, c_le, c_gt, c_ge, c_eq, c_ne, at0, at1, at2, ix0, ix1, ix2, v_var, v_int, v_str, v_bl, v_non, v_glob, v_add, v_sub, v_neg, v_idx, v_len, onV_d, onV_scr, onW_d, onW_scr, onW_own, simR, sv, frzT, E.sim?, E.var?, SE.var?, Tv.item, Tv.len, PyData.itemsOf, List.map_cons, List.map_nil, List.replicate, List.cons_append, List.nil_append, List.length_cons, List.length_nil, List.set_cons_zero, List.set_cons_succ, List.getElem?_cons_zero, List.getElem?_cons_succ, Option.join_some, Option.some.injEq, Option.map_some, exists_eq', exists_eq, exists_eq_left', exists_eq_left, exists_and_left, Option.bind_some, Option.bind_eq_bind, Option.pure_def, wipeR, restR, keepD, Tv.d.injEq, Tv.own.injEq, PyData.int.injEq, PyData.bool.injEq, PyData.tuple.injEq, PyData.list.injEq, PyData.str.injEq, List.cons.injEq, and_true, if_tt, if_ff, Option.bind_none, Option.getD_none, Option.getD_some, Int.sub_zero, Int.zero_add, and_assoc, true_and, exists_const, Nat.reduceAdd, Nat.reduceLT, Nat.reduceSub, Nat.zero_add]
    exact hq _
end Tr
set_option Elab.async false
set_option linter.all false
set_option maxRecDepth 100000
set_option maxHeartbeats 4000000
set_option exponentiation.threshold 3000
namespace Tr
open PySem PySem.Spec PyProof.Rows L2
theorem shown_bulk {b : Bool} {d : PyData} (h : nic b d = true) : d.shown.length ≤ 72 * d.bulk + 70 := PyData.shown_le_bulk 70 (by decide) d (nic_leaf b d h).1
theorem show_okb {b : Bool} {d : PyData} (h : nic b d = true) (hs : shal 30 d = true) (hb : d.bulk ≤ 200000) : ShowOk d := by
  refine ⟨(nic_leaf b d h).2.2, hs, ?_⟩
  have := shown_bulk h
  rw [sizeLine_eq]
  omega
theorem bulk_all {B : Nat} : ∀ {xs : List PyData}, (∀ x ∈ xs, x.bulk ≤ B) → PyData.bulkAll xs ≤ (B + 1) * xs.length
  | [], _ => Nat.zero_le _
  | x :: xs, h => by
    have h1 := h x (by simp)
    have h2 := bulk_all (xs := xs) fun y hy => h y (by simp [hy])
    show x.bulk + 1 + PyData.bulkAll xs ≤ (B + 1) * (xs.length + 1)
    rw [Nat.mul_succ]
    omega
theorem bulk_ints : ∀ ns : List Int, PyData.bulkAll (ns.map .int) = ns.length
  | [] => rfl
  | n :: ns => by
    show 0 + 1 + PyData.bulkAll (ns.map .int) = ns.length + 1
    rw [bulk_ints ns]
    omega
theorem bulk_sit {pr pk : Int} {s : PyData} (h : Sit pr pk s) : s.bulk ≤ 12 := by
  obtain ⟨t, n, e, ps, rfl, a1, a2, a3, a4, a5, a6, a7, a8⟩ := h
  show 0 + 1 + (0 + 1 + (0 + 1 + (PyData.bulkAll (ps.map .int) + 1 + 0))) ≤ 12
  rw [bulk_ints]
  omega
theorem bulk_plan {pr pk : Int} {ss : List PyData} (h : PlanOk pr pk ss) : (planD pr pk ss).bulk ≤ 800 := by
  have h5 := h.len
  have := bulk_all (B := 12) fun x hx => bulk_sit (h.sit x hx)
  show 0 + 1 + (0 + 1 + (PyData.bulkAll ss + 1 + 0)) ≤ 800
  omega
theorem nic_trip (b : Bool) {pr pk : Int} {t : PyData} (hp : pr ≤ 1000) (hk : pk ≤ 1000) (h : Trip pr pk t) : nic b t = true := by
  obtain ⟨q, n, e, rfl, b1, b2, b3, b4, b5, b6⟩ := h
  have lim : ∀ z : Int, 0 ≤ z → z ≤ 1000 → decide (z.natAbs < 10 ^ 60) = true := fun z z0 z1 => decide_eq_true (Nat.lt_of_le_of_lt (show z.natAbs ≤ 1000 by omega) (by decide))
  show (decide (q.natAbs < 10 ^ 60) && (decide (n.natAbs < 10 ^ 60) && (decide (e.natAbs < 10 ^ 60) && true))) = true
  rw [lim q b1 (by omega), lim n b3 (by omega), lim e b5 (by omega)]
  rfl
theorem bulk_trip {pr pk : Int} {t : PyData} (h : Trip pr pk t) : t.bulk ≤ 3 := by
  obtain ⟨q, n, e, rfl, _⟩ := h
  exact Nat.le_refl 3
theorem shal_trip {pr pk : Int} {t : PyData} (k : Nat) (h : Trip pr pk t) : shal (k + 2) t = true := by
  obtain ⟨q, n, e, rfl, _⟩ := h
  rfl
theorem show_two {L : List PyData} (h1 : nicA true L = true) (h2 : L.all (shal 28) = true) (h3 : PyData.bulkAll L ≤ 90000) : ShowOk (.list [.tuple L, .tuple L]) := by
  refine show_okb (b := true) ?_ ?_ ?_
  · show (nicA true L && (nicA true L && true)) = true
    rw [h1]
    rfl
  · show (L.all (shal 28) && (L.all (shal 28) && true)) = true
    rw [h2]
    rfl
  · show PyData.bulkAll L + 1 + (PyData.bulkAll L + 1 + 0) ≤ 200000
    omega
theorem show_two_ints {a b : Int} (ha : a.natAbs < 10 ^ 60) (hb : b.natAbs < 10 ^ 60) : ShowOk (.list [.int a, .int b]) := by
  refine show_okb (b := true) ?_ rfl (Nat.le_trans (show 0 + 1 + (0 + 1 + 0) ≤ 2 from Nat.le_refl _) (by decide))
  show (decide (a.natAbs < 10 ^ 60) && (decide (b.natAbs < 10 ^ 60) && true)) = true
  rw [decide_eq_true ha, decide_eq_true hb]
  rfl
theorem show_plays {pr pk : Int} {pl : List PyData} (hp : pr ≤ 1000) (hk : pk ≤ 1000) (h : ∀ x ∈ pl, Trip pr pk x) (hl : pl.length ≤ 480) : ShowOk (.list [.tuple pl, .tuple pl]) := by
  have := bulk_all (B := 3) fun x hx => bulk_trip (h x hx)
  exact show_two (nic_all true pl fun x hx => nic_trip true hp hk (h x hx)) (List.all_eq_true.mpr fun x hx => shal_trip 26 (h x hx)) (by omega)
theorem show_plan {pr pk : Int} {ss : List PyData} (h : PlanOk pr pk ss) : ShowOk (planD pr pk ss) := by
  have h2 := h.p2
  have h3 := h.k2
  have := bulk_plan h
  refine show_okb (nic_plan true h).1 ?_ (by omega)
  show (shal 29 (.int pr) && (shal 29 (.int pk) && (ss.all (shal 28) && true))) = true
  rw [List.all_eq_true.mpr fun x hx => shal_sit (h.sit x hx) 26]
  rfl
theorem lack_eq {pr pk : Int} {pl : List PyData} (h : ∀ x ∈ pl, Trip pr pk x) (a : Int) (p : Nat) : (pl.filter fun t => packIs (p : Nat) t && sideIs a t).isEmpty = lackB a pl p := by
  induction pl with
  | nil => rfl
  | cons t pl ih =>
    have ih := ih fun x hx => h x (by simp [hx])
    obtain ⟨q, n, e, rfl, _⟩ := h t (by simp)
    unfold lackB at ih ⊢
    have e2 : PyData.eqv (packOf (tripD q n e)) (.int (p : Nat)) = packIs (p : Nat) (tripD q n e) := rfl
    cases h1 : sideIs a (tripD q n e) <;> cases h2 : packIs (p : Nat) (tripD q n e) <;> simp only [List.filter_cons, h1, h2, Bool.and_true, Bool.and_false, Bool.true_and, Bool.false_and, if_true, if_false, List.map_cons, List.any_cons, e2, Bool.true_or, Bool.false_or, ih, Bool.not_true, List.isEmpty_cons, Bool.false_eq_true]
theorem sort2 {α : Type} (le : α → α → Bool) (x y : α) : [x, y].mergeSort le = if le x y then [x, y] else [y, x] := by
  simp [List.mergeSort, List.MergeSort.Internal.splitInTwo, List.merge]
theorem dle_int (x y : Int) : dle (.int x) (.int y) = decide (x ≤ y) := by
  unfold dle
  rw [show PySem.W.dataLt (.int y) (.int x) = decide (y < x) from PySem.W.dataLt_int ..]
  by_cases h : x ≤ y
  · rw [decide_eq_true h, decide_eq_false (by omega)]
    rfl
  · rw [decide_eq_false h, decide_eq_true (by omega)]
    rfl
theorem two_sort (x y : Int) : SortOk [.int x, .int y] where
  al := fun a ha b hb => by
    simp only [List.mem_cons, List.not_mem_nil, or_false] at ha hb
    rcases ha with rfl | rfl <;> rcases hb with rfl | rfl <;> simp [PySem.W.alike]
  so := .inr fun d hd => by
    simp only [List.mem_cons, List.not_mem_nil, or_false] at hd
    rcases hd with rfl | rfl <;> exact ⟨by simp, by simp⟩
  sh := fun x hx => by
    simp only [List.mem_cons, List.not_mem_nil, or_false] at hx
    rcases hx with rfl | rfl <;> rfl
def pairB (a b n e : Int) : Bool := (a == n && b == e) || (a == e && b == n)
theorem eqv_sort2 (a b n e : Int) : PyData.eqv (.list ([PyData.int a, PyData.int b].mergeSort dle)) (.list ([PyData.int n, PyData.int e].mergeSort dle)) = pairB a b n e := by
  rw [sort2, sort2]
  have d : ∀ x y : Int, dle (.int x) (.int y) = decide (x ≤ y) := dle_int
  rw [d, d]
  have q : ∀ x y z w : Int, PyData.eqv (.list [.int x, .int y]) (.list [.int z, .int w]) = ((x == z) && (y == w)) := fun x y z w => by
    show ((x == z) && ((y == w) && true)) = _
    rw [Bool.and_true]
  by_cases h1 : a ≤ b <;> by_cases h2 : n ≤ e <;> simp only [h1, h2, decide_true, decide_false, if_true, if_false, q, pairB, Bool.false_eq_true] <;> rw [Bool.eq_iff_iff] <;> simp <;> omega
/-! how often two pairs meet, by the sittings -/
def metOne (a b : Int) : PyData → Int
  | .tuple [_, .int n, .int e, .tuple ps] => (ps.length : Nat) * (if pairB a b n e then 1 else 0)
  | _ => 0
def metSum (a b : Int) : List PyData → Int
  | [] => 0
  | s :: ss => metOne a b s + metSum a b ss
theorem metSum_append (a b : Int) : ∀ xs ys : List PyData, metSum a b (xs ++ ys) = metSum a b xs + metSum a b ys
  | [], ys => (Int.zero_add _).symm
  | x :: xs, ys => by
    show metOne a b x + metSum a b (xs ++ ys) = metOne a b x + metSum a b xs + metSum a b ys
    rw [metSum_append a b xs ys]
    omega
theorem met_pair {a b n e : Int} (h : a ≠ b) : ((a == n || a == e) && (b == n || b == e)) = pairB a b n e := by
  rw [Bool.eq_iff_iff]
  simp [pairB]
  omega
theorem met_sit {pr pk : Int} {s : PyData} {a b : Int} (h : Sit pr pk s) (hab : a ≠ b) : (((tripsOf s).filter (metB a b)).length : Int) = metOne a b s := by
  obtain ⟨t, n, e, ps, rfl, _⟩ := h
  rw [trips_sit]
  have e1 : ∀ p : Int, metB a b (tripD p n e) = pairB a b n e := fun p => met_pair hab
  have e2 : metOne a b (sitD t n e ps) = ((ps.map PyData.int).length : Nat) * (if pairB a b n e then 1 else 0) := rfl
  rw [e2, List.length_map, List.filter_map, List.length_map]
  have e3 : (metB a b ∘ fun p => tripD p n e) = fun _ => pairB a b n e := funext e1
  rw [e3]
  cases pairB a b n e with
  | true =>
    rw [List.filter_eq_self.mpr fun _ _ => rfl]
    simp
  | false =>
    rw [List.filter_eq_nil_iff.mpr fun _ _ => by simp]
    simp
theorem met_flat {pr pk : Int} {a b : Int} (hab : a ≠ b) : ∀ {ss : List PyData}, (∀ s ∈ ss, Sit pr pk s) → (((ss.flatMap tripsOf).filter (metB a b)).length : Int) = metSum a b ss
  | [], _ => rfl
  | s :: ss, h => by
    rw [List.flatMap_cons, List.filter_append, List.length_append]
    have h1 := met_sit (a := a) (b := b) (h s (by simp)) hab
    have h2 := met_flat hab (ss := ss) fun x hx => h x (by simp [hx])
    show _ = metOne a b s + metSum a b ss
    omega
theorem met_plays {pr pk : Int} {a b : Int} {ss : List PyData} (h : ∀ s ∈ ss, Sit pr pk s) (hab : a ≠ b) : metN a b (playsL ss) = metSum a b ss := by
  rw [← met_flat hab h]
  unfold metN playsL
  rw [((List.mergeSort_perm (ss.flatMap tripsOf) dle).filter (metB a b)).length_eq]
theorem metSum_le {pr pk : Int} (a b : Int) : ∀ {ss : List PyData}, (∀ s ∈ ss, Sit pr pk s) → 0 ≤ metSum a b ss ∧ metSum a b ss ≤ 8 * ss.length
  | [], _ => ⟨Int.le_refl _, Int.le_refl _⟩
  | s :: ss, h => by
    have h2 := metSum_le a b (ss := ss) fun x hx => h x (by simp [hx])
    obtain ⟨t, n, e, ps, rfl, _, _, _, _, _, _, _, h8⟩ := h s (by simp)
    have e2 : metOne a b (sitD t n e ps) = ((ps.map PyData.int).length : Nat) * (if pairB a b n e then 1 else 0) := rfl
    show 0 ≤ metOne a b (sitD t n e ps) + metSum a b ss ∧ metOne a b (sitD t n e ps) + metSum a b ss ≤ 8 * ((ss.length + 1 : Nat) : Int)
    rw [e2, List.length_map]
    split <;> omega
end Tr
set_option Elab.async false
set_option linter.all false
set_option maxRecDepth 100000
set_option maxHeartbeats 4000000
namespace Tr
open PySem PySem.Spec PyProof.Rows L2
/-! how often pairs are held against one another: the mathematics -/
def ind (p : Prop) [Decidable p] : Int := if p then 1 else 0
theorem ind_and {p q : Prop} [Decidable p] [Decidable q] (v : Int) : (if p ∧ q then v else 0) = v * (ind p * ind q) := by
  unfold ind
  by_cases hp : p <;> by_cases hq : q <;> simp [hp, hq]
abbrev Adds := List (Nat × Nat × Int)
abbrev Prs := List (Nat × Nat)
def sumAdds (l : Adds) (a b : Nat) : Int := (l.map fun t => if a = t.1 ∧ b = t.2.1 then t.2.2 else 0).sum
theorem adds_append (l m : Adds) (a b : Nat) : sumAdds (l ++ m) a b = sumAdds l a b + sumAdds m a b := by
  unfold sumAdds
  rw [List.map_append, List.sum_append]
def bothL (n e : Nat) (v : Int) : Adds := [(n, e, v), (e, n, v)]
def sg (p : Nat × Nat) (a : Nat) : Int := ind (a = p.1) - ind (a = p.2)
def sm (p : Nat × Nat) (a b : Nat) : Int := ind (a = p.1) * ind (b = p.2) + ind (a = p.2) * ind (b = p.1)
theorem sum_both (n e : Nat) (v : Int) (a b : Nat) : sumAdds (bothL n e v) a b = v * sm (n, e) a b := by
  show (if a = n ∧ b = e then v else 0) + ((if a = e ∧ b = n then v else 0) + 0) = _
  rw [ind_and, ind_and]
  unfold sm
  grind
def crossL (p q : Nat × Nat) : Adds := bothL p.1 q.1 1 ++ bothL p.2 q.2 1 ++ bothL p.1 q.2 (-1) ++ bothL q.1 p.2 (-1)
theorem sum_cross (p q : Nat × Nat) (a b : Nat) : sumAdds (crossL p q) a b = sg p a * sg q b + sg q a * sg p b := by
  unfold crossL
  rw [adds_append, adds_append, adds_append, sum_both, sum_both, sum_both, sum_both]
  unfold sm sg
  generalize ind (a = p.1) = x1
  generalize ind (a = p.2) = x2
  generalize ind (a = q.1) = x3
  generalize ind (a = q.2) = x4
  generalize ind (b = p.1) = y1
  generalize ind (b = p.2) = y2
  generalize ind (b = q.1) = y3
  generalize ind (b = q.2) = y4
  grind
def sS (o : Prs) (a : Nat) : Int := (o.map fun p => sg p a).sum
def sM (o : Prs) (a b : Nat) : Int := (o.map fun p => sm p a b).sum
def sSS (o : Prs) (a b : Nat) : Int := (o.map fun p => sg p a * sg p b).sum
theorem sS_append (o u : Prs) (a : Nat) : sS (o ++ u) a = sS o a + sS u a := by
  unfold sS
  rw [List.map_append, List.sum_append]
theorem sM_append (o u : Prs) (a b : Nat) : sM (o ++ u) a b = sM o a b + sM u a b := by
  unfold sM
  rw [List.map_append, List.sum_append]
theorem sSS_append (o u : Prs) (a b : Nat) : sSS (o ++ u) a b = sSS o a b + sSS u a b := by
  unfold sSS
  rw [List.map_append, List.sum_append]
theorem sum_crosses (p : Nat × Nat) (a b : Nat) : ∀ o : Prs, sumAdds (o.flatMap (crossL p)) a b = sg p a * sS o b + sS o a * sg p b
  | [] => by
    show (0 : Int) = sg p a * 0 + 0 * sg p b
    grind
  | q :: o => by
    have e1 : ∀ c, sS (q :: o) c = sg q c + sS o c := fun _ => rfl
    rw [List.flatMap_cons, adds_append, sum_cross, sum_crosses p a b o, e1, e1]
    generalize sg p a = x1
    generalize sg p b = x2
    generalize sg q a = x3
    generalize sg q b = x4
    generalize sS o a = x5
    generalize sS o b = x6
    grind
def playAdds (L : Int) (own : Prs) (m : Nat) : Adds := match own[m]? with
  | some p => bothL p.1 p.2 L ++ (own.take m).flatMap (crossL p)
  | none => []
def progAdds (L : Int) (own : Prs) (k : Nat) : Adds := (List.range k).flatMap (playAdds L own)
theorem prog_sum (L : Int) (own : Prs) (a b : Nat) : ∀ k, k ≤ own.length → sumAdds (progAdds L own k) a b = L * sM (own.take k) a b + (sS (own.take k) a * sS (own.take k) b - sSS (own.take k) a b)
  | 0, _ => by
    rw [List.take_zero]
    show (0 : Int) = L * 0 + (0 * 0 - 0)
    grind
  | k + 1, h => by
    have hk : own[k]? = some own[k] := List.getElem?_eq_getElem (by omega)
    have ih := prog_sum L own a b k (by omega)
    have e1 : progAdds L own (k + 1) = progAdds L own k ++ playAdds L own k := by
      unfold progAdds
      rw [List.range_succ, List.flatMap_append, List.flatMap_cons, List.flatMap_nil, List.append_nil]
    have e2 : playAdds L own k = bothL own[k].1 own[k].2 L ++ (own.take k).flatMap (crossL own[k]) := by
      unfold playAdds
      rw [hk]
    have e3 : ∀ c, sS [own[k]] c = sg own[k] c := fun c => Int.add_zero _
    have e4 : sM [own[k]] a b = sm own[k] a b := Int.add_zero _
    have e5 : sSS [own[k]] a b = sg own[k] a * sg own[k] b := Int.add_zero _
    rw [e1, e2, adds_append, adds_append, sum_both, sum_crosses, ih, take_snoc hk, sS_append, sS_append, sM_append, sSS_append, e3, e3, e4, e5]
    have e6 : sm (own[k].1, own[k].2) a b = sm own[k] a b := rfl
    rw [e6]
    generalize sm own[k] a b = x0
    generalize sg own[k] a = x1
    generalize sg own[k] b = x2
    generalize sS (own.take k) a = x5
    generalize sS (own.take k) b = x6
    generalize sM (own.take k) a b = x7
    generalize sSS (own.take k) a b = x8
    grind
/-- how often two pairs are held against one another at the plays of a pack -/
def cell (own : Prs) (a b : Nat) : Int := ((own.length : Int) - 1) * sM own a b + (sS own a * sS own b - sSS own a b)
theorem prog_cell (own : Prs) (a b : Nat) : sumAdds (progAdds ((own.length : Int) - 1) own own.length) a b = cell own a b := by
  rw [prog_sum _ _ _ _ _ (Nat.le_refl _), List.take_length]
  rfl
/-! the law's own look -/
def has (a : Nat) (p : Nat × Nat) : Bool := a == p.1 || a == p.2
def sideOf (a : Nat) (p : Nat × Nat) : Nat := if p.1 = a then 0 else 1
def lawPick (n a b : Nat) (A B : Prs) : Int := match A, B with
  | p :: ps, q :: qs => if p :: ps = q :: qs then (n : Int) - 1 else if sideOf a p = sideOf b q then 1 else -1
  | _, _ => 0
def lawCell (own : Prs) (a b : Nat) : Int := if a = b then 0 else lawPick own.length a b (own.filter (has a)) (own.filter (has b))
theorem has_no {a : Nat} {p : Nat × Nat} (h : has a p = false) : ind (a = p.1) = 0 ∧ ind (a = p.2) = 0 := by
  unfold has at h
  rw [Bool.or_eq_false_iff] at h
  have h1 := ne_of_beq_false h.1
  have h2 := ne_of_beq_false h.2
  unfold ind
  rw [if_neg h1, if_neg h2]
  exact ⟨rfl, rfl⟩
theorem sum_has {f : Nat × Nat → Int} {a : Nat} (h : ∀ p, has a p = false → f p = 0) : ∀ o : Prs, (o.map f).sum = ((o.filter (has a)).map f).sum
  | [] => rfl
  | p :: o => by
    rw [List.map_cons, List.sum_cons, sum_has h o]
    cases e : has a p with
    | true => rw [List.filter_cons_of_pos e]; rfl
    | false => rw [List.filter_cons_of_neg (by rw [e]; exact Bool.false_ne_true), h p e, Int.zero_add]
theorem sg_no {a : Nat} {p : Nat × Nat} (h : has a p = false) : sg p a = 0 := by
  unfold sg
  rw [(has_no h).1, (has_no h).2]
  rfl
theorem sm_no {a b : Nat} {p : Nat × Nat} (h : has a p = false) : sm p a b = 0 := by
  unfold sm
  rw [(has_no h).1, (has_no h).2]
  grind
theorem sm_no' {a b : Nat} {p : Nat × Nat} (h : has b p = false) : sm p a b = 0 := by
  unfold sm
  rw [(has_no h).1, (has_no h).2]
  grind
theorem sg_in {a : Nat} {p : Nat × Nat} (h : has a p = true) (hne : p.1 ≠ p.2) : sg p a = if sideOf a p = 0 then 1 else -1 := by
  unfold has at h
  rw [Bool.or_eq_true] at h
  unfold sg ind sideOf
  rcases h with h | h
  · have h := eq_of_beq h
    subst h
    rw [if_pos rfl, if_neg hne, if_pos rfl]
    rfl
  · have h := eq_of_beq h
    subst h
    rw [if_pos rfl, if_neg (fun z => hne z.symm), if_neg hne]
    rfl
structure OneSeat (own : Prs) : Prop where
  one : ∀ a, (own.filter (has a)).length ≤ 1
  ne : ∀ p ∈ own, p.1 ≠ p.2
theorem sums_nil {own : Prs} {a : Nat} (h : own.filter (has a) = []) (b : Nat) : sS own a = 0 ∧ sM own a b = 0 ∧ sM own b a = 0 ∧ sSS own a b = 0 ∧ sSS own b a = 0 := by
  refine ⟨?_, ?_, ?_, ?_, ?_⟩
  · unfold sS; rw [sum_has (a := a) (fun p e => sg_no e), h]; rfl
  · unfold sM; rw [sum_has (a := a) (fun p e => sm_no e), h]; rfl
  · unfold sM; rw [sum_has (a := a) (fun p e => sm_no' e), h]; rfl
  · unfold sSS; rw [sum_has (a := a) (fun p e => by rw [sg_no e]; grind), h]; rfl
  · unfold sSS; rw [sum_has (a := a) (fun p e => by rw [sg_no e]; grind), h]; rfl
theorem sums_one {own : Prs} {a : Nat} {p : Nat × Nat} (h : own.filter (has a) = [p]) (b : Nat) : sS own a = sg p a ∧ sM own a b = sm p a b ∧ sSS own a b = sg p a * sg p b := by
  refine ⟨?_, ?_, ?_⟩
  · unfold sS; rw [sum_has (a := a) (fun p e => sg_no e), h]; exact Int.add_zero _
  · unfold sM; rw [sum_has (a := a) (fun p e => sm_no e), h]; exact Int.add_zero _
  · unfold sSS; rw [sum_has (a := a) (fun p e => by rw [sg_no e]; grind), h]; exact Int.add_zero _
theorem seat_of {own : Prs} (h : OneSeat own) (a : Nat) : own.filter (has a) = [] ∨ ∃ p, own.filter (has a) = [p] ∧ has a p = true ∧ p.1 ≠ p.2 := by
  have h1 := h.one a
  cases e : own.filter (has a) with
  | nil => exact .inl rfl
  | cons p ps =>
    cases ps with
    | cons q qs => rw [e] at h1; simp at h1
    | nil =>
      have hp : p ∈ own.filter (has a) := by rw [e]; simp
      have := List.mem_filter.mp hp
      exact .inr ⟨p, rfl, this.2, h.ne p this.1⟩
theorem cell_self {own : Prs} (h : OneSeat own) (a : Nat) : cell own a a = 0 := by
  unfold cell
  rcases seat_of h a with h0 | ⟨p, hp, hi, hne⟩
  · obtain ⟨e1, e2, _, e3, _⟩ := sums_nil h0 a
    rw [e1, e2, e3]
    grind
  · obtain ⟨e1, e2, e3⟩ := sums_one hp a
    have e4 : sm p a a = 0 := by
      unfold sm ind
      by_cases h1 : a = p.1
      · rw [if_neg (show a ≠ p.2 from fun z => hne (h1.symm.trans z))]
        grind
      · rw [if_neg h1]
        grind
    rw [e1, e2, e3, e4]
    grind
theorem law_cell {own : Prs} (h : OneSeat own) (a b : Nat) : lawCell own a b = cell own a b := by
  unfold lawCell
  by_cases hab : a = b
  · subst hab
    rw [if_pos rfl, cell_self h]
  · rw [if_neg hab]
    rcases seat_of h a with h0 | ⟨p, hp, hpi, hpne⟩
    · obtain ⟨e1, e2, _, e3, _⟩ := sums_nil h0 b
      unfold cell
      rw [h0, e1, e2, e3]
      show (0 : Int) = _
      grind
    · rcases seat_of h b with h0 | ⟨q, hq, hqi, hqne⟩
      · obtain ⟨e1, _, e2, _, e3⟩ := sums_nil h0 a
        unfold cell
        rw [hp, h0, e1, e2, e3]
        show (0 : Int) = _
        grind
      · obtain ⟨e1, e2, e3⟩ := sums_one hp b
        obtain ⟨e4, _, _⟩ := sums_one hq a
        unfold cell
        rw [hp, hq, e1, e2, e3, e4]
        show (if [p] = [q] then _ else if sideOf a p = sideOf b q then (1 : Int) else -1) = _
        by_cases hpq : p = q
        · subst hpq
          rw [if_pos rfl]
          have e5 : sm p a b = 1 := by
            unfold has at hpi hqi
            rw [Bool.or_eq_true] at hpi hqi
            unfold sm ind
            rcases hpi with z1 | z1 <;> rcases hqi with z2 | z2
            · exact absurd ((eq_of_beq z1).trans (eq_of_beq z2).symm) hab
            · have z1 := eq_of_beq z1
              have z2 := eq_of_beq z2
              rw [if_pos z1, if_pos z2, if_neg (fun z => hpne (z1.symm.trans z)), Int.zero_mul]
              rfl
            · have z1 := eq_of_beq z1
              have z2 := eq_of_beq z2
              rw [if_pos z1, if_pos z2, if_neg (fun z => hpne (z.symm.trans z1)), Int.zero_mul]
              rfl
            · exact absurd ((eq_of_beq z1).trans (eq_of_beq z2).symm) hab
          rw [e5]
          grind
        · rw [if_neg (fun z => hpq (List.cons.inj z).1)]
          have hbp : has b p = false := by
            cases e : has b p with
            | false => rfl
            | true =>
              have hm : p ∈ own.filter (has a) := by rw [hp]; simp
              have : p ∈ own.filter (has b) := List.mem_filter.mpr ⟨(List.mem_filter.mp hm).1, e⟩
              rw [hq] at this
              exact absurd (List.mem_singleton.mp this) hpq
          rw [sm_no' hbp, sg_no hbp, sg_in hpi hpne, sg_in hqi hqne]
          have c1 : sideOf a p = 0 ∨ sideOf a p = 1 := by unfold sideOf; split <;> simp
          have c2 : sideOf b q = 0 ∨ sideOf b q = 1 := by unfold sideOf; split <;> simp
          rcases c1 with c1 | c1 <;> rcases c2 with c2 | c2 <;> rw [c1, c2] <;> simp
end Tr
set_option Elab.async false
set_option linter.all false
set_option maxRecDepth 100000
set_option maxHeartbeats 4000000
set_option exponentiation.threshold 3000
namespace Tr
open PySem PySem.Spec PyProof.Rows L2
/-! square tables of ints, as functions -/
abbrev TF := Nat → Nat → Int
def rowT (P : Nat) (g : Nat → Int) : Tv := .own ((List.range P).map fun j => .d (.int (g j)))
def matL (P : Nat) (f : TF) : List Tv := (List.range P).map fun i => rowT P (f i)
def rowD (P : Nat) (g : Nat → Int) : List PyData := (List.range P).map fun j => .int (g j)
theorem row_own (P : Nat) (g : Nat → Int) : rowT P g = .own ((rowD P g).map Tv.d) := by
  unfold rowT rowD
  rw [List.map_map]
  rfl
theorem row_frz (P : Nat) (g : Nat → Int) : (rowT P g).frz = some (.list (rowD P g)) := by
  rw [row_own]
  exact f_own
theorem mat_frzs (P : Nat) (f : TF) : ∀ l : List Nat, frzs (l.map fun i => rowT P (f i)) = some (l.map fun i => .list (rowD P (f i)))
  | [] => rfl
  | i :: l => by
    rw [List.map_cons]
    simp only [frzs, row_frz, mat_frzs P f l]
    rfl
def matD (P : Nat) (f : TF) : List PyData := (List.range P).map fun i => .list (rowD P (f i))
theorem mat_frz (P : Nat) (f : TF) : (Tv.own (matL P f)).frz = some (.list (matD P f)) := by
  simp only [Tv.frz]
  unfold matL matD
  rw [mat_frzs]
theorem mat_len (P : Nat) (f : TF) : (matL P f).length = P := by
  unfold matL
  rw [List.length_map, List.length_range]
theorem mat_get {P : Nat} (f : TF) {i : Nat} (h : i < P) : (matL P f)[i]? = some (rowT P (f i)) := by
  unfold matL
  rw [List.getElem?_map, List.getElem?_range h]
  rfl
theorem mat_at {P : Nat} (f : TF) {i : Nat} (h : i < P) : atI (matL P f) (i : Nat) = some (rowT P (f i)) := atI_nat (mat_get f h)
theorem row_at {P : Nat} (g : Nat → Int) {j : Nat} (h : j < P) : atI ((List.range P).map fun j => Tv.d (.int (g j))) (j : Nat) = some (.d (.int (g j))) := atI_nat (by
  rw [List.getElem?_map, List.getElem?_range h]
  rfl)
theorem map_set {α : Type} {P : Nat} (F : Nat → α) (i : Nat) (x : α) : ((List.range P).map F).set i x = (List.range P).map fun a => if a = i then x else F a := by
  refine List.ext_getElem (by simp) fun k h1 h2 => ?_
  simp only [List.length_set, List.length_map, List.length_range] at h1
  rw [List.getElem_set]
  simp only [List.getElem_map, List.getElem_range]
  by_cases h : i = k
  · rw [if_pos h, if_pos h.symm]
  · rw [if_neg h, if_neg (fun z => h z.symm)]
def setF (f : TF) (i j : Nat) (v : Int) : TF := fun a b => if a = i ∧ b = j then v else f a b
def addF (f : TF) (i j : Nat) (v : Int) : TF := fun a b => f a b + if a = i ∧ b = j then v else 0
theorem add_set (f : TF) (i j : Nat) (v : Int) : setF f i j (f i j + v) = addF f i j v := by
  funext a b
  unfold setF addF
  by_cases h : a = i ∧ b = j
  · rw [if_pos h, if_pos h, h.1, h.2]
  · rw [if_neg h, if_neg h, Int.add_zero]
theorem mat_set (P : Nat) (f : TF) (i j : Nat) (v : Int) : (matL P f).set i (.own (((List.range P).map fun b => Tv.d (.int (f i b))).set j (.d (.int v)))) = matL P (setF f i j v) := by
  unfold matL
  rw [map_set, map_set]
  refine List.map_congr_left fun a _ => ?_
  unfold rowT setF
  by_cases h : a = i
  · subst h
    rw [if_pos rfl]
    congr 1
    refine List.map_congr_left fun b _ => ?_
    by_cases h2 : b = j
    · rw [if_pos h2, if_pos ⟨rfl, h2⟩]
    · rw [if_neg h2, if_neg (fun z => h2 z.2)]
  · rw [if_neg h]
    congr 1
    refine List.map_congr_left fun b _ => ?_
    rw [if_neg (fun z => h z.1)]
theorem ixN_mat {P i : Nat} (f : TF) (h : i < P) : ixN (matL P f).length (i : Nat) = some i := by
  rw [mat_len]
  unfold ixN
  rw [if_pos (by omega), if_pos (by omega)]
  rfl
theorem ixN_row {P i : Nat} (g : Nat → Int) (h : i < P) : ixN ((List.range P).map fun b => Tv.d (.int (g b))).length (i : Nat) = some i := by
  rw [List.length_map, List.length_range]
  unfold ixN
  rw [if_pos (by omega), if_pos (by omega)]
  rfl
theorem mat_ext {P : Nat} {f g : TF} (h : ∀ a b, a < P → b < P → f a b = g a b) : matL P f = matL P g := by
  unfold matL rowT
  refine List.map_congr_left fun a ha => ?_
  congr 1
  refine List.map_congr_left fun b hb => ?_
  rw [h a b (List.mem_range.mp ha) (List.mem_range.mp hb)]
def addL (f : TF) (l : Adds) : TF := l.foldl (fun f t => addF f t.1 t.2.1 t.2.2) f
theorem addL_append (f : TF) (l m : Adds) : addL f (l ++ m) = addL (addL f l) m := List.foldl_append
theorem addL_val : ∀ (l : Adds) (f : TF) (a b : Nat), addL f l a b = f a b + sumAdds l a b
  | [], f, a, b => (Int.add_zero _).symm
  | t :: l, f, a, b => by
    show addL (addF f t.1 t.2.1 t.2.2) l a b = f a b + ((if a = t.1 ∧ b = t.2.1 then t.2.2 else 0) + sumAdds l a b)
    rw [addL_val l]
    unfold addF
    omega
/-! the two places of two pairs -/
def bAddBoth : SL := (.cons (.ix2 0 (.var 1) (.var 2) (.bin .add (.sim (.idx (.idx (.var 0) (.var 1)) (.var 2))) (.sim (.var 3))))
  (.cons (.ix2 0 (.var 2) (.var 1) (.bin .add (.sim (.idx (.idx (.var 0) (.var 2)) (.var 1))) (.sim (.var 3))))
  .nil))
def spAddBoth : FS := fun xs Q => ∃ (P : Nat) (f : TF) (i j : Nat) (v : Int), xs = [.own (matL P f), .d (.int (i : Nat)), .d (.int (j : Nat)), .d (.int v)] ∧ i < P ∧ j < P ∧ ∀ rest, Q (.d .none) (some (.own (matL P (addL f (bothL i j v)))) :: rest)
theorem ok_addBoth {Γ : Gam} {Φ : Phi} : ∀ xs Q, spAddBoth xs Q → fsOf Γ Φ 4 4 bAddBoth xs Q := by
  rintro xs Q ⟨P, f, i, j, v, rfl, hi, hj, hq⟩
  refine ⟨rfl, ?_⟩
  rw [bAddBoth, r_cons]
  simp only [mat_at f hi, rowT, row_at (f i) hj, r_nil, r_set, r_unp, r_par, r_ix1, r_ix2, r_ixp, r_ixe, r_app, r_ext, r_expr, r_ret, r_retv, r_retN, r_if, r_for, r_while, r_pass, r_brk, r_cont, q_sim, q_bin, q_neg, q_cmp, q_isN, q_notN, q_chain, q_and, q_or, q_and1, q_and2, q_or1, q_or2, q_not, q_ite, q_tup, q_lst, q_idx, q_slice, q_rev, q_blt1, q_bltv, q_blt2, q_sortset, q_lrng, q_lc, q_pop, q_index, q_es0, q_es1, q_o0, q_o1, q_c0, q_c1, q_seq, q_rng, q_enum, q_zip, g_name, g_tup, g_t0, g_t1, o_add, o_sub, o_mul, o_fdiv, o_mod, o_pow, f_d, f_nil, c_lt, c_le, c_gt, c_ge, c_eq, c_ne, at0, at1, at2, ix0, ix1, ix2, v_var, v_int, v_str, v_bl, v_non, v_glob, v_add, v_sub, v_neg, v_idx, v_len, onV_d, onV_scr, onW_d, onW_scr, onW_own, simR, sv, frzT, E.sim?, E.var?, SE.var?, Tv.item, Tv.len, PyData.itemsOf, List.map_cons, List.map_nil, List.replicate, List.cons_append, List.nil_append, List.length_cons, List.length_nil, List.set_cons_zero, List.set_cons_succ, List.getElem?_cons_zero, List.getElem?_cons_succ, Option.join_some, Option.some.injEq, Option.map_some, exists_eq', exists_eq, exists_eq_left', exists_eq_left, exists_and_left, Option.bind_some, Option.bind_eq_bind, Option.pure_def, wipeR, restR, keepD, Tv.d.injEq, Tv.own.injEq, PyData.int.injEq, PyData.bool.injEq, PyData.tuple.injEq, PyData.list.injEq, PyData.str.injEq, List.cons.injEq, and_true, if_tt, if_ff, Option.bind_none, Option.getD_none, Option.getD_some, Int.sub_zero, Int.zero_add, and_assoc, true_and, exists_const, Nat.reduceAdd, Nat.reduceLT, Nat.reduceSub, Nat.zero_add]
  refine ⟨i, ixN_mat f hi, _, mat_get f hi, j, ixN_row (f i) hj, ?_⟩
  rw [mat_set, add_set, r_cons]
  simp only [mat_at (addF f i j v) hj, rowT, row_at (addF f i j v j) hi, r_nil, r_set, r_unp, r_par, r_ix1, r_ix2, r_ixp, r_ixe, r_app, r_ext, r_expr, r_ret, r_retv, r_retN, r_if, r_for, r_while, r_pass, r_brk, r_cont, q_sim, q_bin, q_neg, q_cmp, q_isN, q_notN, q_chain, q_and, q_or, q_and1, q_and2, q_or1, q_or2, q_not, q_ite, q_tup, q_lst, q_idx, q_slice, q_rev, q_blt1, q_bltv, q_blt2, q_sortset, q_lrng, q_lc, q_pop, q_index, q_es0, q_es1, q_o0, q_o1, q_c0, q_c1, q_seq, q_rng, q_enum, q_zip, g_name, g_tup, g_t0, g_t1, o_add, o_sub, o_mul, o_fdiv, o_mod, o_pow, f_d, f_nil, c_lt, c_le, c_gt, c_ge, c_eq, c_ne, at0, at1, at2, ix0, ix1, ix2, v_var, v_int, v_str, v_bl, v_non, v_glob, v_add, v_sub, v_neg, v_idx, v_len, onV_d, onV_scr, onW_d, onW_scr, onW_own, simR, sv, frzT, E.sim?, E.var?, SE.var?, Tv.item, Tv.len, PyData.itemsOf, List.map_cons, List.map_nil, List.replicate, List.cons_append, List.nil_append, List.length_cons, List.length_nil, List.set_cons_zero, List.set_cons_succ, List.getElem?_cons_zero, List.getElem?_cons_succ, Option.join_some, Option.some.injEq, Option.map_some, exists_eq', exists_eq, exists_eq_left', exists_eq_left, exists_and_left, Option.bind_some, Option.bind_eq_bind, Option.pure_def, wipeR, restR, keepD, Tv.d.injEq, Tv.own.injEq, PyData.int.injEq, PyData.bool.injEq, PyData.tuple.injEq, PyData.list.injEq, PyData.str.injEq, List.cons.injEq, and_true, if_tt, if_ff, Option.bind_none, Option.getD_none, Option.getD_some, Int.sub_zero, Int.zero_add, and_assoc, true_and, exists_const, Nat.reduceAdd, Nat.reduceLT, Nat.reduceSub, Nat.zero_add]
  refine ⟨j, ixN_mat _ hj, _, mat_get _ hj, i, ixN_row _ hi, ?_⟩
  rw [mat_set, add_set]
  exact hq _
def feAddBoth : FE := ⟨["rows", "one", "other", "many"], [], some 0, spAddBoth⟩
def pairD (p : Nat × Nat) : PyData := .tuple [.int (p.1 : Nat), .int (p.2 : Nat)]
def bRowsOf : SL := (.cons (.set 2 (.lc (.bin .mul (.lst (.cons (.sim (.int 0)) .nil)) (.sim (.var 0))) (.name 4) (.rng .non (.sim (.var 0))) .non [4]))
  (.cons (.for_ (.tup (.cons (.name 3) (.cons (.tup (.cons (.name 5) (.cons (.name 6) .nil))) .nil))) (.enum (.sim (.var 1)))
  (.cons (.expr (.call "add_both" (.cons (.sim (.var 2)) (.cons (.sim (.var 5)) (.cons (.sim (.var 6)) (.cons (.bin .sub (.sim (.len (.var 1))) (.sim (.int 1))) .nil))))))
  (.cons (.for_ (.tup (.cons (.name 7) (.cons (.name 8) .nil))) (.seq (.slice (.sim (.var 1)) .non (.som (.sim (.var 3)))))
  (.cons (.expr (.call "add_both" (.cons (.sim (.var 2)) (.cons (.sim (.var 5)) (.cons (.sim (.var 7)) (.cons (.sim (.int 1)) .nil))))))
  (.cons (.expr (.call "add_both" (.cons (.sim (.var 2)) (.cons (.sim (.var 6)) (.cons (.sim (.var 8)) (.cons (.sim (.int 1)) .nil))))))
  (.cons (.expr (.call "add_both" (.cons (.sim (.var 2)) (.cons (.sim (.var 5)) (.cons (.sim (.var 8)) (.cons (.sim (.neg (.int 1))) .nil))))))
  (.cons (.expr (.call "add_both" (.cons (.sim (.var 2)) (.cons (.sim (.var 7)) (.cons (.sim (.var 6)) (.cons (.sim (.neg (.int 1))) .nil))))))
  .nil))))
  [7, 8])
  .nil))
  [3, 5, 6, 7, 8])
  (.cons (.retv 2)
  .nil)))
theorem zeros_flat0 : ∀ k : Nat, (List.replicate k [PyData.int 0]).flatten = (List.replicate k (0 : Int)).map .int
  | 0 => rfl
  | k + 1 => by
    rw [List.replicate_succ, List.replicate_succ, List.flatten_cons, List.map_cons, ← zeros_flat0 k]
    rfl
theorem mapIdx_at0 {xs : List PyData} {j : Nat} {y : PyData} (h : (xs.mapIdx fun k x => PyData.tuple [.int (k : Nat), x])[j]? = some y) : ∃ x, xs[j]? = some x ∧ y = .tuple [.int (j : Nat), x] := by
  rw [List.getElem?_mapIdx] at h
  obtain ⟨x, hx, rfl⟩ := Option.map_eq_some_iff.mp h
  exact ⟨x, hx, rfl⟩
theorem cut_to {α : Type} {xs : List α} {k : Nat} (h : k ≤ xs.length) : cutD xs none (some (k : Int)) = xs.take k := by
  unfold cutD
  rw [HT.sIx_none, HT.sIx_nat, Nat.min_eq_left h]
  rfl
def zeroF : TF := fun _ _ => 0
theorem zero_row (P : Nat) : Tv.own (((List.replicate P [PyData.int 0]).flatten).map Tv.d) = rowT P fun _ => 0 := by
  rw [zeros_flat0]
  unfold rowT
  congr 1
  rw [List.map_map]
  refine List.ext_getElem (by simp) fun k h1 h2 => by simp
def PrsIn (P : Nat) (own : Prs) : Prop := own.length ≤ 480 ∧ ∀ p ∈ own, p.1 < P ∧ p.2 < P
def spRowsOf : FS := fun xs Q => ∃ (P : Nat) (own : Prs), xs = [.d (.int (P : Nat)), .d (.list (own.map pairD))] ∧ P ≤ 10 ∧ PrsIn P own ∧ ∀ rest, Q (.own (matL P (cell own))) rest
theorem args44 {x y z u : PyData} : argTs [.d x, .d y, .d z] = some [.d x, .d y, .d z] := rfl
theorem ok_rowsOf {Γ : Gam} {Φ : Phi} (hA : Φ "add_both" = some feAddBoth) : ∀ xs Q, spRowsOf xs Q → fsOf Γ Φ 2 9 bRowsOf xs Q := by
  rintro xs Q ⟨P, own, rfl, hP, hown, hq⟩
  refine ⟨rfl, ?_⟩
  obtain ⟨hlen, hin⟩ := hown
  rw [bRowsOf, r_cons]
  simp only [r_nil, r_set, r_unp, r_par, r_ix1, r_ix2, r_ixp, r_ixe, r_app, r_ext, r_expr, r_ret, r_retv, r_retN, r_if, r_for, r_while, r_pass, r_brk, r_cont, q_sim, q_bin, q_neg, q_cmp, q_isN, q_notN, q_chain, q_and, q_or, q_and1, q_and2, q_or1, q_or2, q_not, q_ite, q_tup, q_lst, q_idx, q_slice, q_rev, q_blt1, q_bltv, q_blt2, q_sortset, q_lrng, q_lc, q_pop, q_index, q_es0, q_es1, q_o0, q_o1, q_c0, q_c1, q_seq, q_rng, q_enum, q_zip, g_name, g_tup, g_t0, g_t1, o_add, o_sub, o_mul, o_fdiv, o_mod, o_pow, f_d, f_nil, c_lt, c_le, c_gt, c_ge, c_eq, c_ne, at0, at1, at2, ix0, ix1, ix2, v_var, v_int, v_str, v_bl, v_non, v_glob, v_add, v_sub, v_neg, v_idx, v_len, onV_d, onV_scr, onW_d, onW_scr, onW_own, simR, sv, frzT, E.sim?, E.var?, SE.var?, Tv.item, Tv.len, PyData.itemsOf, List.map_cons, List.map_nil, List.replicate, List.cons_append, List.nil_append, List.length_cons, List.length_nil, List.set_cons_zero, List.set_cons_succ, List.getElem?_cons_zero, List.getElem?_cons_succ, Option.join_some, Option.some.injEq, Option.map_some, exists_eq', exists_eq, exists_eq_left', exists_eq_left, exists_and_left, Option.bind_some, Option.bind_eq_bind, Option.pure_def, wipeR, restR, keepD, Tv.d.injEq, Tv.own.injEq, PyData.int.injEq, PyData.bool.injEq, PyData.tuple.injEq, PyData.list.injEq, PyData.str.injEq, List.cons.injEq, and_true, if_tt, if_ff, Option.bind_none, Option.getD_none, Option.getD_some, Int.sub_zero, Int.zero_add, and_assoc, true_and, exists_const, Nat.reduceAdd, Nat.reduceLT, Nat.reduceSub, Nat.zero_add]
  refine ⟨by decide, by decide, by omega, by omega, fun j acc ρ => acc = (List.range j).map (fun _ => rowT P fun _ => 0) ∧ ρ = [some (.d (.int (P : Nat))), some (.d (.list (own.map pairD))), none, none, none, none, none, none, none], ⟨rfl, rfl⟩, ?_, ?_⟩
  · rintro j y acc ρ2 hy ⟨rfl, rfl⟩
    have hj := (List.getElem?_eq_some_iff.mp hy).1
    simp only [List.length_map, List.length_range] at hj
    simp only [List.length_map, List.length_range, r_nil, r_cons, r_set, r_unp, r_par, r_ix1, r_ix2, r_ixp, r_ixe, r_app, r_ext, r_expr, r_ret, r_retv, r_retN, r_if, r_for, r_while, r_pass, r_brk, r_cont, q_sim, q_bin, q_neg, q_cmp, q_isN, q_notN, q_chain, q_and, q_or, q_and1, q_and2, q_or1, q_or2, q_not, q_ite, q_tup, q_lst, q_idx, q_slice, q_rev, q_blt1, q_bltv, q_blt2, q_sortset, q_lrng, q_lc, q_pop, q_index, q_es0, q_es1, q_o0, q_o1, q_c0, q_c1, q_seq, q_rng, q_enum, q_zip, g_name, g_tup, g_t0, g_t1, o_add, o_sub, o_mul, o_fdiv, o_mod, o_pow, f_d, f_nil, c_lt, c_le, c_gt, c_ge, c_eq, c_ne, at0, at1, at2, ix0, ix1, ix2, v_var, v_int, v_str, v_bl, v_non, v_glob, v_add, v_sub, v_neg, v_idx, v_len, onV_d, onV_scr, onW_d, onW_scr, onW_own, simR, sv, frzT, E.sim?, E.var?, SE.var?, Tv.item, Tv.len, PyData.itemsOf, List.map_cons, List.map_nil, List.replicate, List.cons_append, List.nil_append, List.length_cons, List.length_nil, List.set_cons_zero, List.set_cons_succ, List.getElem?_cons_zero, List.getElem?_cons_succ, Option.join_some, Option.some.injEq, Option.map_some, exists_eq', exists_eq, exists_eq_left', exists_eq_left, exists_and_left, Option.bind_some, Option.bind_eq_bind, Option.pure_def, wipeR, restR, keepD, Tv.d.injEq, Tv.own.injEq, PyData.int.injEq, PyData.bool.injEq, PyData.tuple.injEq, PyData.list.injEq, PyData.str.injEq, List.cons.injEq, and_true, if_tt, if_ff, Option.bind_none, Option.getD_none, Option.getD_some, Int.sub_zero, Int.zero_add, and_assoc, true_and, exists_const, Nat.reduceAdd, Nat.reduceLT, Nat.reduceSub, Nat.zero_add]
    refine ⟨fun _ => ⟨[.int 0], fo1, by omega, by omega, by rw [sizeLine_eq]; exact Nat.le_trans (Nat.mul_le_mul_left 1 (show (P : Int).toNat ≤ 10 by omega)) (by decide), small64 (by omega), ?_⟩, fun z => (nomatch z)⟩
    rw [Int.toNat_natCast, zero_row, List.range_succ, List.map_append]
    rfl
  rintro acc ρ2 ⟨rfl, rfl⟩
  simp only [List.length_map, List.length_range, r_nil, r_set, r_unp, r_par, r_ix1, r_ix2, r_ixp, r_ixe, r_app, r_ext, r_expr, r_ret, r_retv, r_retN, r_if, r_for, r_while, r_pass, r_brk, r_cont, q_sim, q_bin, q_neg, q_cmp, q_isN, q_notN, q_chain, q_and, q_or, q_and1, q_and2, q_or1, q_or2, q_not, q_ite, q_tup, q_lst, q_idx, q_slice, q_rev, q_blt1, q_bltv, q_blt2, q_sortset, q_lrng, q_lc, q_pop, q_index, q_es0, q_es1, q_o0, q_o1, q_c0, q_c1, q_seq, q_rng, q_enum, q_zip, g_name, g_tup, g_t0, g_t1, o_add, o_sub, o_mul, o_fdiv, o_mod, o_pow, f_d, f_nil, c_lt, c_le, c_gt, c_ge, c_eq, c_ne, at0, at1, at2, ix0, ix1, ix2, v_var, v_int, v_str, v_bl, v_non, v_glob, v_add, v_sub, v_neg, v_idx, v_len, onV_d, onV_scr, onW_d, onW_scr, onW_own, simR, sv, frzT, E.sim?, E.var?, SE.var?, Tv.item, Tv.len, PyData.itemsOf, List.map_cons, List.map_nil, List.replicate, List.cons_append, List.nil_append, List.length_cons, List.length_nil, List.set_cons_zero, List.set_cons_succ, List.getElem?_cons_zero, List.getElem?_cons_succ, Option.join_some, Option.some.injEq, Option.map_some, exists_eq', exists_eq, exists_eq_left', exists_eq_left, exists_and_left, Option.bind_some, Option.bind_eq_bind, Option.pure_def, wipeR, restR, keepD, Tv.d.injEq, Tv.own.injEq, PyData.int.injEq, PyData.bool.injEq, PyData.tuple.injEq, PyData.list.injEq, PyData.str.injEq, List.cons.injEq, and_true, if_tt, if_ff, Option.bind_none, Option.getD_none, Option.getD_some, Int.sub_zero, Int.zero_add, and_assoc, true_and, exists_const, Nat.reduceAdd, Nat.reduceLT, Nat.reduceSub, Nat.zero_add]
  have hz : ((List.range (P : Int).toNat).map fun _ => rowT P fun _ => (0 : Int)) = matL P zeroF := by
    rw [Int.toNat_natCast]
    rfl
  rw [hz, r_cons]
  simp only [r_nil, r_set, r_unp, r_par, r_ix1, r_ix2, r_ixp, r_ixe, r_app, r_ext, r_expr, r_ret, r_retv, r_retN, r_if, r_for, r_while, r_pass, r_brk, r_cont, q_sim, q_bin, q_neg, q_cmp, q_isN, q_notN, q_chain, q_and, q_or, q_and1, q_and2, q_or1, q_or2, q_not, q_ite, q_tup, q_lst, q_idx, q_slice, q_rev, q_blt1, q_bltv, q_blt2, q_sortset, q_lrng, q_lc, q_pop, q_index, q_es0, q_es1, q_o0, q_o1, q_c0, q_c1, q_seq, q_rng, q_enum, q_zip, g_name, g_tup, g_t0, g_t1, o_add, o_sub, o_mul, o_fdiv, o_mod, o_pow, f_d, f_nil, c_lt, c_le, c_gt, c_ge, c_eq, c_ne, at0, at1, at2, ix0, ix1, ix2, v_var, v_int, v_str, v_bl, v_non, v_glob, v_add, v_sub, v_neg, v_idx, v_len, onV_d, onV_scr, onW_d, onW_scr, onW_own, simR, sv, frzT, E.sim?, E.var?, SE.var?, Tv.item, Tv.len, PyData.itemsOf, List.map_cons, List.map_nil, List.replicate, List.cons_append, List.nil_append, List.length_cons, List.length_nil, List.set_cons_zero, List.set_cons_succ, List.getElem?_cons_zero, List.getElem?_cons_succ, Option.join_some, Option.some.injEq, Option.map_some, exists_eq', exists_eq, exists_eq_left', exists_eq_left, exists_and_left, Option.bind_some, Option.bind_eq_bind, Option.pure_def, wipeR, restR, keepD, Tv.d.injEq, Tv.own.injEq, PyData.int.injEq, PyData.bool.injEq, PyData.tuple.injEq, PyData.list.injEq, PyData.str.injEq, List.cons.injEq, and_true, if_tt, if_ff, Option.bind_none, Option.getD_none, Option.getD_some, Int.sub_zero, Int.zero_add, and_assoc, true_and, exists_const, Nat.reduceAdd, Nat.reduceLT, Nat.reduceSub, Nat.zero_add]
  refine ⟨fun k ρ => ρ = [some (.d (.int (P : Nat))), some (.d (.list (own.map pairD))), some (.own (matL P (addL zeroF (progAdds ((own.length : Int) - 1) own k)))), none, none, none, none, none, none], rfl, ?_, ?_⟩
  · rintro k y ρ2 hy rfl
    obtain ⟨t, ht, rfl⟩ := mapIdx_at0 hy
    rw [List.getElem?_map] at ht
    obtain ⟨p, hp, rfl⟩ := Option.map_eq_some_iff.mp ht
    obtain ⟨hp1, hp2⟩ := hin p (List.mem_of_getElem? hp)
    have hk := (List.getElem?_eq_some_iff.mp hp).1
    have hnext : addL zeroF (progAdds ((own.length : Int) - 1) own (k + 1)) = addL (addL (addL zeroF (progAdds ((own.length : Int) - 1) own k)) (bothL p.1 p.2 ((own.length : Int) - 1))) ((own.take k).flatMap (crossL p)) := by
      have e1 : progAdds ((own.length : Int) - 1) own (k + 1) = progAdds ((own.length : Int) - 1) own k ++ playAdds ((own.length : Int) - 1) own k := by
        unfold progAdds
        rw [List.range_succ, List.flatMap_append, List.flatMap_cons, List.flatMap_nil, List.append_nil]
      have e2 : playAdds ((own.length : Int) - 1) own k = bothL p.1 p.2 ((own.length : Int) - 1) ++ (own.take k).flatMap (crossL p) := by
        unfold playAdds
        rw [hp]
      rw [e1, e2, addL_append, addL_append]
    generalize addL zeroF (progAdds ((own.length : Int) - 1) own k) = F at hnext ⊢
    simp only [pairD, r_nil, r_set, r_unp, r_par, r_ix1, r_ix2, r_ixp, r_ixe, r_app, r_ext, r_expr, r_ret, r_retv, r_retN, r_if, r_for, r_while, r_pass, r_brk, r_cont, q_sim, q_bin, q_neg, q_cmp, q_isN, q_notN, q_chain, q_and, q_or, q_and1, q_and2, q_or1, q_or2, q_not, q_ite, q_tup, q_lst, q_idx, q_slice, q_rev, q_blt1, q_bltv, q_blt2, q_sortset, q_lrng, q_lc, q_pop, q_index, q_es0, q_es1, q_o0, q_o1, q_c0, q_c1, q_seq, q_rng, q_enum, q_zip, g_name, g_tup, g_t0, g_t1, o_add, o_sub, o_mul, o_fdiv, o_mod, o_pow, f_d, f_nil, c_lt, c_le, c_gt, c_ge, c_eq, c_ne, at0, at1, at2, ix0, ix1, ix2, v_var, v_int, v_str, v_bl, v_non, v_glob, v_add, v_sub, v_neg, v_idx, v_len, onV_d, onV_scr, onW_d, onW_scr, onW_own, simR, sv, frzT, E.sim?, E.var?, SE.var?, Tv.item, Tv.len, PyData.itemsOf, List.map_cons, List.map_nil, List.replicate, List.cons_append, List.nil_append, List.length_cons, List.length_nil, List.set_cons_zero, List.set_cons_succ, List.getElem?_cons_zero, List.getElem?_cons_succ, Option.join_some, Option.some.injEq, Option.map_some, exists_eq', exists_eq, exists_eq_left', exists_eq_left, exists_and_left, Option.bind_some, Option.bind_eq_bind, Option.pure_def, wipeR, restR, keepD, Tv.d.injEq, Tv.own.injEq, PyData.int.injEq, PyData.bool.injEq, PyData.tuple.injEq, PyData.list.injEq, PyData.str.injEq, List.cons.injEq, and_true, if_tt, if_ff, Option.bind_none, Option.getD_none, Option.getD_some, Int.sub_zero, Int.zero_add, and_assoc, true_and, exists_const, Nat.reduceAdd, Nat.reduceLT, Nat.reduceSub, Nat.zero_add]
    rw [r_cons]
    simp only [q_callO hA rfl, args33, feAddBoth, List.length_map, r_nil, r_set, r_unp, r_par, r_ix1, r_ix2, r_ixp, r_ixe, r_app, r_ext, r_expr, r_ret, r_retv, r_retN, r_if, r_for, r_while, r_pass, r_brk, r_cont, q_sim, q_bin, q_neg, q_cmp, q_isN, q_notN, q_chain, q_and, q_or, q_and1, q_and2, q_or1, q_or2, q_not, q_ite, q_tup, q_lst, q_idx, q_slice, q_rev, q_blt1, q_bltv, q_blt2, q_sortset, q_lrng, q_lc, q_pop, q_index, q_es0, q_es1, q_o0, q_o1, q_c0, q_c1, q_seq, q_rng, q_enum, q_zip, g_name, g_tup, g_t0, g_t1, o_add, o_sub, o_mul, o_fdiv, o_mod, o_pow, f_d, f_nil, c_lt, c_le, c_gt, c_ge, c_eq, c_ne, at0, at1, at2, ix0, ix1, ix2, v_var, v_int, v_str, v_bl, v_non, v_glob, v_add, v_sub, v_neg, v_idx, v_len, onV_d, onV_scr, onW_d, onW_scr, onW_own, simR, sv, frzT, E.sim?, E.var?, SE.var?, Tv.item, Tv.len, PyData.itemsOf, List.map_cons, List.map_nil, List.replicate, List.cons_append, List.nil_append, List.length_cons, List.length_nil, List.set_cons_zero, List.set_cons_succ, List.getElem?_cons_zero, List.getElem?_cons_succ, Option.join_some, Option.some.injEq, Option.map_some, exists_eq', exists_eq, exists_eq_left', exists_eq_left, exists_and_left, Option.bind_some, Option.bind_eq_bind, Option.pure_def, wipeR, restR, keepD, Tv.d.injEq, Tv.own.injEq, PyData.int.injEq, PyData.bool.injEq, PyData.tuple.injEq, PyData.list.injEq, PyData.str.injEq, List.cons.injEq, and_true, if_tt, if_ff, Option.bind_none, Option.getD_none, Option.getD_some, Int.sub_zero, Int.zero_add, and_assoc, true_and, exists_const, Nat.reduceAdd, Nat.reduceLT, Nat.reduceSub, Nat.zero_add]
    refine ⟨P, F, p.1, p.2, _, rfl, hp1, hp2, fun rest => ?_⟩
    simp only [r_nil, r_set, r_unp, r_par, r_ix1, r_ix2, r_ixp, r_ixe, r_app, r_ext, r_expr, r_ret, r_retv, r_retN, r_if, r_for, r_while, r_pass, r_brk, r_cont, q_sim, q_bin, q_neg, q_cmp, q_isN, q_notN, q_chain, q_and, q_or, q_and1, q_and2, q_or1, q_or2, q_not, q_ite, q_tup, q_lst, q_idx, q_slice, q_rev, q_blt1, q_bltv, q_blt2, q_sortset, q_lrng, q_lc, q_pop, q_index, q_es0, q_es1, q_o0, q_o1, q_c0, q_c1, q_seq, q_rng, q_enum, q_zip, g_name, g_tup, g_t0, g_t1, o_add, o_sub, o_mul, o_fdiv, o_mod, o_pow, f_d, f_nil, c_lt, c_le, c_gt, c_ge, c_eq, c_ne, at0, at1, at2, ix0, ix1, ix2, v_var, v_int, v_str, v_bl, v_non, v_glob, v_add, v_sub, v_neg, v_idx, v_len, onV_d, onV_scr, onW_d, onW_scr, onW_own, simR, sv, frzT, E.sim?, E.var?, SE.var?, Tv.item, Tv.len, PyData.itemsOf, List.map_cons, List.map_nil, List.replicate, List.cons_append, List.nil_append, List.length_cons, List.length_nil, List.set_cons_zero, List.set_cons_succ, List.getElem?_cons_zero, List.getElem?_cons_succ, Option.join_some, Option.some.injEq, Option.map_some, exists_eq', exists_eq, exists_eq_left', exists_eq_left, exists_and_left, Option.bind_some, Option.bind_eq_bind, Option.pure_def, wipeR, restR, keepD, Tv.d.injEq, Tv.own.injEq, PyData.int.injEq, PyData.bool.injEq, PyData.tuple.injEq, PyData.list.injEq, PyData.str.injEq, List.cons.injEq, and_true, if_tt, if_ff, Option.bind_none, Option.getD_none, Option.getD_some, Int.sub_zero, Int.zero_add, and_assoc, true_and, exists_const, Nat.reduceAdd, Nat.reduceLT, Nat.reduceSub, Nat.zero_add]
    generalize addL F (bothL p.1 p.2 ((own.length : Int) - 1)) = F1 at hnext ⊢
    rw [r_cons]
    simp only [r_nil, r_set, r_unp, r_par, r_ix1, r_ix2, r_ixp, r_ixe, r_app, r_ext, r_expr, r_ret, r_retv, r_retN, r_if, r_for, r_while, r_pass, r_brk, r_cont, q_sim, q_bin, q_neg, q_cmp, q_isN, q_notN, q_chain, q_and, q_or, q_and1, q_and2, q_or1, q_or2, q_not, q_ite, q_tup, q_lst, q_idx, q_slice, q_rev, q_blt1, q_bltv, q_blt2, q_sortset, q_lrng, q_lc, q_pop, q_index, q_es0, q_es1, q_o0, q_o1, q_c0, q_c1, q_seq, q_rng, q_enum, q_zip, g_name, g_tup, g_t0, g_t1, o_add, o_sub, o_mul, o_fdiv, o_mod, o_pow, f_d, f_nil, c_lt, c_le, c_gt, c_ge, c_eq, c_ne, at0, at1, at2, ix0, ix1, ix2, v_var, v_int, v_str, v_bl, v_non, v_glob, v_add, v_sub, v_neg, v_idx, v_len, onV_d, onV_scr, onW_d, onW_scr, onW_own, simR, sv, frzT, E.sim?, E.var?, SE.var?, Tv.item, Tv.len, PyData.itemsOf, List.map_cons, List.map_nil, List.replicate, List.cons_append, List.nil_append, List.length_cons, List.length_nil, List.set_cons_zero, List.set_cons_succ, List.getElem?_cons_zero, List.getElem?_cons_succ, Option.join_some, Option.some.injEq, Option.map_some, exists_eq', exists_eq, exists_eq_left', exists_eq_left, exists_and_left, Option.bind_some, Option.bind_eq_bind, Option.pure_def, wipeR, restR, keepD, Tv.d.injEq, Tv.own.injEq, PyData.int.injEq, PyData.bool.injEq, PyData.tuple.injEq, PyData.list.injEq, PyData.str.injEq, List.cons.injEq, and_true, if_tt, if_ff, Option.bind_none, Option.getD_none, Option.getD_some, Int.sub_zero, Int.zero_add, and_assoc, true_and, exists_const, Nat.reduceAdd, Nat.reduceLT, Nat.reduceSub, Nat.zero_add]
    refine ⟨_, rfl, _, f_own, _, rfl, ?_⟩
    rw [cut_to (by rw [List.length_map]; omega), ← List.map_take]
    refine ⟨fun m ρ => ρ = [some (.d (.int (P : Nat))), some (.d (.list (own.map pairD))), some (.own (matL P (addL F1 (((own.take k).take m).flatMap (crossL p))))), some (.d (.int (k : Nat))), none, some (.d (.int (p.1 : Nat))), some (.d (.int (p.2 : Nat))), none, none], rfl, ?_, ?_⟩
    · rintro m y ρ2 hy rfl
      rw [List.getElem?_map] at hy
      obtain ⟨q, hq', rfl⟩ := Option.map_eq_some_iff.mp hy
      obtain ⟨hq1, hq2⟩ := hin q (List.mem_of_mem_take (List.mem_of_getElem? hq'))
      have hnext2 : addL F1 (((own.take k).take (m + 1)).flatMap (crossL p)) = addL (addL (addL (addL (addL F1 (((own.take k).take m).flatMap (crossL p))) (bothL p.1 q.1 1)) (bothL p.2 q.2 1)) (bothL p.1 q.2 (-1))) (bothL q.1 p.2 (-1)) := by
        rw [take_snoc hq', List.flatMap_append, addL_append]
        show addL _ ((crossL p q) ++ []) = _
        rw [List.append_nil]
        unfold crossL
        rw [addL_append, addL_append, addL_append]
      generalize addL F1 (((own.take k).take m).flatMap (crossL p)) = F2 at hnext2 ⊢
      simp only [pairD, r_nil, r_set, r_unp, r_par, r_ix1, r_ix2, r_ixp, r_ixe, r_app, r_ext, r_expr, r_ret, r_retv, r_retN, r_if, r_for, r_while, r_pass, r_brk, r_cont, q_sim, q_bin, q_neg, q_cmp, q_isN, q_notN, q_chain, q_and, q_or, q_and1, q_and2, q_or1, q_or2, q_not, q_ite, q_tup, q_lst, q_idx, q_slice, q_rev, q_blt1, q_bltv, q_blt2, q_sortset, q_lrng, q_lc, q_pop, q_index, q_es0, q_es1, q_o0, q_o1, q_c0, q_c1, q_seq, q_rng, q_enum, q_zip, g_name, g_tup, g_t0, g_t1, o_add, o_sub, o_mul, o_fdiv, o_mod, o_pow, f_d, f_nil, c_lt, c_le, c_gt, c_ge, c_eq, c_ne, at0, at1, at2, ix0, ix1, ix2, v_var, v_int, v_str, v_bl, v_non, v_glob, v_add, v_sub, v_neg, v_idx, v_len, onV_d, onV_scr, onW_d, onW_scr, onW_own, simR, sv, frzT, E.sim?, E.var?, SE.var?, Tv.item, Tv.len, PyData.itemsOf, List.map_cons, List.map_nil, List.replicate, List.cons_append, List.nil_append, List.length_cons, List.length_nil, List.set_cons_zero, List.set_cons_succ, List.getElem?_cons_zero, List.getElem?_cons_succ, Option.join_some, Option.some.injEq, Option.map_some, exists_eq', exists_eq, exists_eq_left', exists_eq_left, exists_and_left, Option.bind_some, Option.bind_eq_bind, Option.pure_def, wipeR, restR, keepD, Tv.d.injEq, Tv.own.injEq, PyData.int.injEq, PyData.bool.injEq, PyData.tuple.injEq, PyData.list.injEq, PyData.str.injEq, List.cons.injEq, and_true, if_tt, if_ff, Option.bind_none, Option.getD_none, Option.getD_some, Int.sub_zero, Int.zero_add, and_assoc, true_and, exists_const, Nat.reduceAdd, Nat.reduceLT, Nat.reduceSub, Nat.zero_add]
      rw [r_cons]
      simp only [q_callO hA rfl, args33, feAddBoth, r_nil, r_set, r_unp, r_par, r_ix1, r_ix2, r_ixp, r_ixe, r_app, r_ext, r_expr, r_ret, r_retv, r_retN, r_if, r_for, r_while, r_pass, r_brk, r_cont, q_sim, q_bin, q_neg, q_cmp, q_isN, q_notN, q_chain, q_and, q_or, q_and1, q_and2, q_or1, q_or2, q_not, q_ite, q_tup, q_lst, q_idx, q_slice, q_rev, q_blt1, q_bltv, q_blt2, q_sortset, q_lrng, q_lc, q_pop, q_index, q_es0, q_es1, q_o0, q_o1, q_c0, q_c1, q_seq, q_rng, q_enum, q_zip, g_name, g_tup, g_t0, g_t1, o_add, o_sub, o_mul, o_fdiv, o_mod, o_pow, f_d, f_nil, c_lt, c_le, c_gt, c_ge, c_eq, c_ne, at0, at1, at2, ix0, ix1, ix2, v_var, v_int, v_str, v_bl, v_non, v_glob, v_add, v_sub, v_neg, v_idx, v_len, onV_d, onV_scr, onW_d, onW_scr, onW_own, simR, sv, frzT, E.sim?, E.var?, SE.var?, Tv.item, Tv.len, PyData.itemsOf, List.map_cons, List.map_nil, List.replicate, List.cons_append, List.nil_append, List.length_cons, List.length_nil, List.set_cons_zero, List.set_cons_succ, List.getElem?_cons_zero, List.getElem?_cons_succ, Option.join_some, Option.some.injEq, Option.map_some, exists_eq', exists_eq, exists_eq_left', exists_eq_left, exists_and_left, Option.bind_some, Option.bind_eq_bind, Option.pure_def, wipeR, restR, keepD, Tv.d.injEq, Tv.own.injEq, PyData.int.injEq, PyData.bool.injEq, PyData.tuple.injEq, PyData.list.injEq, PyData.str.injEq, List.cons.injEq, and_true, if_tt, if_ff, Option.bind_none, Option.getD_none, Option.getD_some, Int.sub_zero, Int.zero_add, and_assoc, true_and, exists_const, Nat.reduceAdd, Nat.reduceLT, Nat.reduceSub, Nat.zero_add]
      refine ⟨P, _, p.1, q.1, _, rfl, hp1, hq1, fun rest => ?_⟩
      simp only [r_nil, r_set, r_unp, r_par, r_ix1, r_ix2, r_ixp, r_ixe, r_app, r_ext, r_expr, r_ret, r_retv, r_retN, r_if, r_for, r_while, r_pass, r_brk, r_cont, q_sim, q_bin, q_neg, q_cmp, q_isN, q_notN, q_chain, q_and, q_or, q_and1, q_and2, q_or1, q_or2, q_not, q_ite, q_tup, q_lst, q_idx, q_slice, q_rev, q_blt1, q_bltv, q_blt2, q_sortset, q_lrng, q_lc, q_pop, q_index, q_es0, q_es1, q_o0, q_o1, q_c0, q_c1, q_seq, q_rng, q_enum, q_zip, g_name, g_tup, g_t0, g_t1, o_add, o_sub, o_mul, o_fdiv, o_mod, o_pow, f_d, f_nil, c_lt, c_le, c_gt, c_ge, c_eq, c_ne, at0, at1, at2, ix0, ix1, ix2, v_var, v_int, v_str, v_bl, v_non, v_glob, v_add, v_sub, v_neg, v_idx, v_len, onV_d, onV_scr, onW_d, onW_scr, onW_own, simR, sv, frzT, E.sim?, E.var?, SE.var?, Tv.item, Tv.len, PyData.itemsOf, List.map_cons, List.map_nil, List.replicate, List.cons_append, List.nil_append, List.length_cons, List.length_nil, List.set_cons_zero, List.set_cons_succ, List.getElem?_cons_zero, List.getElem?_cons_succ, Option.join_some, Option.some.injEq, Option.map_some, exists_eq', exists_eq, exists_eq_left', exists_eq_left, exists_and_left, Option.bind_some, Option.bind_eq_bind, Option.pure_def, wipeR, restR, keepD, Tv.d.injEq, Tv.own.injEq, PyData.int.injEq, PyData.bool.injEq, PyData.tuple.injEq, PyData.list.injEq, PyData.str.injEq, List.cons.injEq, and_true, if_tt, if_ff, Option.bind_none, Option.getD_none, Option.getD_some, Int.sub_zero, Int.zero_add, and_assoc, true_and, exists_const, Nat.reduceAdd, Nat.reduceLT, Nat.reduceSub, Nat.zero_add]
      rw [r_cons]
      simp only [q_callO hA rfl, args33, feAddBoth, r_nil, r_set, r_unp, r_par, r_ix1, r_ix2, r_ixp, r_ixe, r_app, r_ext, r_expr, r_ret, r_retv, r_retN, r_if, r_for, r_while, r_pass, r_brk, r_cont, q_sim, q_bin, q_neg, q_cmp, q_isN, q_notN, q_chain, q_and, q_or, q_and1, q_and2, q_or1, q_or2, q_not, q_ite, q_tup, q_lst, q_idx, q_slice, q_rev, q_blt1, q_bltv, q_blt2, q_sortset, q_lrng, q_lc, q_pop, q_index, q_es0, q_es1, q_o0, q_o1, q_c0, q_c1, q_seq, q_rng, q_enum, q_zip, g_name, g_tup, g_t0, g_t1, o_add, o_sub, o_mul, o_fdiv, o_mod, o_pow, f_d, f_nil, c_lt, c_le, c_gt, c_ge, c_eq, c_ne, at0, at1, at2, ix0, ix1, ix2, v_var, v_int, v_str, v_bl, v_non, v_glob, v_add, v_sub, v_neg, v_idx, v_len, onV_d, onV_scr, onW_d, onW_scr, onW_own, simR, sv, frzT, E.sim?, E.var?, SE.var?, Tv.item, Tv.len, PyData.itemsOf, List.map_cons, List.map_nil, List.replicate, List.cons_append, List.nil_append, List.length_cons, List.length_nil, List.set_cons_zero, List.set_cons_succ, List.getElem?_cons_zero, List.getElem?_cons_succ, Option.join_some, Option.some.injEq, Option.map_some, exists_eq', exists_eq, exists_eq_left', exists_eq_left, exists_and_left, Option.bind_some, Option.bind_eq_bind, Option.pure_def, wipeR, restR, keepD, Tv.d.injEq, Tv.own.injEq, PyData.int.injEq, PyData.bool.injEq, PyData.tuple.injEq, PyData.list.injEq, PyData.str.injEq, List.cons.injEq, and_true, if_tt, if_ff, Option.bind_none, Option.getD_none, Option.getD_some, Int.sub_zero, Int.zero_add, and_assoc, true_and, exists_const, Nat.reduceAdd, Nat.reduceLT, Nat.reduceSub, Nat.zero_add]
      refine ⟨P, _, p.2, q.2, _, rfl, hp2, hq2, fun rest => ?_⟩
      simp only [r_nil, r_set, r_unp, r_par, r_ix1, r_ix2, r_ixp, r_ixe, r_app, r_ext, r_expr, r_ret, r_retv, r_retN, r_if, r_for, r_while, r_pass, r_brk, r_cont, q_sim, q_bin, q_neg, q_cmp, q_isN, q_notN, q_chain, q_and, q_or, q_and1, q_and2, q_or1, q_or2, q_not, q_ite, q_tup, q_lst, q_idx, q_slice, q_rev, q_blt1, q_bltv, q_blt2, q_sortset, q_lrng, q_lc, q_pop, q_index, q_es0, q_es1, q_o0, q_o1, q_c0, q_c1, q_seq, q_rng, q_enum, q_zip, g_name, g_tup, g_t0, g_t1, o_add, o_sub, o_mul, o_fdiv, o_mod, o_pow, f_d, f_nil, c_lt, c_le, c_gt, c_ge, c_eq, c_ne, at0, at1, at2, ix0, ix1, ix2, v_var, v_int, v_str, v_bl, v_non, v_glob, v_add, v_sub, v_neg, v_idx, v_len, onV_d, onV_scr, onW_d, onW_scr, onW_own, simR, sv, frzT, E.sim?, E.var?, SE.var?, Tv.item, Tv.len, PyData.itemsOf, List.map_cons, List.map_nil, List.replicate, List.cons_append, List.nil_append, List.length_cons, List.length_nil, List.set_cons_zero, List.set_cons_succ, List.getElem?_cons_zero, List.getElem?_cons_succ, Option.join_some, Option.some.injEq, Option.map_some, exists_eq', exists_eq, exists_eq_left', exists_eq_left, exists_and_left, Option.bind_some, Option.bind_eq_bind, Option.pure_def, wipeR, restR, keepD, Tv.d.injEq, Tv.own.injEq, PyData.int.injEq, PyData.bool.injEq, PyData.tuple.injEq, PyData.list.injEq, PyData.str.injEq, List.cons.injEq, and_true, if_tt, if_ff, Option.bind_none, Option.getD_none, Option.getD_some, Int.sub_zero, Int.zero_add, and_assoc, true_and, exists_const, Nat.reduceAdd, Nat.reduceLT, Nat.reduceSub, Nat.zero_add]
      rw [r_cons]
      simp only [q_callO hA rfl, args33, feAddBoth, r_nil, r_set, r_unp, r_par, r_ix1, r_ix2, r_ixp, r_ixe, r_app, r_ext, r_expr, r_ret, r_retv, r_retN, r_if, r_for, r_while, r_pass, r_brk, r_cont, q_sim, q_bin, q_neg, q_cmp, q_isN, q_notN, q_chain, q_and, q_or, q_and1, q_and2, q_or1, q_or2, q_not, q_ite, q_tup, q_lst, q_idx, q_slice, q_rev, q_blt1, q_bltv, q_blt2, q_sortset, q_lrng, q_lc, q_pop, q_index, q_es0, q_es1, q_o0, q_o1, q_c0, q_c1, q_seq, q_rng, q_enum, q_zip, g_name, g_tup, g_t0, g_t1, o_add, o_sub, o_mul, o_fdiv, o_mod, o_pow, f_d, f_nil, c_lt, c_le, c_gt, c_ge, c_eq, c_ne, at0, at1, at2, ix0, ix1, ix2, v_var, v_int, v_str, v_bl, v_non, v_glob, v_add, v_sub, v_neg, v_idx, v_len, onV_d, onV_scr, onW_d, onW_scr, onW_own, simR, sv, frzT, E.sim?, E.var?, SE.var?, Tv.item, Tv.len, PyData.itemsOf, List.map_cons, List.map_nil, List.replicate, List.cons_append, List.nil_append, List.length_cons, List.length_nil, List.set_cons_zero, List.set_cons_succ, List.getElem?_cons_zero, List.getElem?_cons_succ, Option.join_some, Option.some.injEq, Option.map_some, exists_eq', exists_eq, exists_eq_left', exists_eq_left, exists_and_left, Option.bind_some, Option.bind_eq_bind, Option.pure_def, wipeR, restR, keepD, Tv.d.injEq, Tv.own.injEq, PyData.int.injEq, PyData.bool.injEq, PyData.tuple.injEq, PyData.list.injEq, PyData.str.injEq, List.cons.injEq, and_true, if_tt, if_ff, Option.bind_none, Option.getD_none, Option.getD_some, Int.sub_zero, Int.zero_add, and_assoc, true_and, exists_const, Nat.reduceAdd, Nat.reduceLT, Nat.reduceSub, Nat.zero_add]
      refine ⟨P, _, p.1, q.2, _, rfl, hp1, hq2, fun rest => ?_⟩
      simp only [r_nil, r_set, r_unp, r_par, r_ix1, r_ix2, r_ixp, r_ixe, r_app, r_ext, r_expr, r_ret, r_retv, r_retN, r_if, r_for, r_while, r_pass, r_brk, r_cont, q_sim, q_bin, q_neg, q_cmp, q_isN, q_notN, q_chain, q_and, q_or, q_and1, q_and2, q_or1, q_or2, q_not, q_ite, q_tup, q_lst, q_idx, q_slice, q_rev, q_blt1, q_bltv, q_blt2, q_sortset, q_lrng, q_lc, q_pop, q_index, q_es0, q_es1, q_o0, q_o1, q_c0, q_c1, q_seq, q_rng, q_enum, q_zip, g_name, g_tup, g_t0, g_t1, o_add, o_sub, o_mul, o_fdiv, o_mod, o_pow, f_d, f_nil, c_lt, c_le, c_gt, c_ge, c_eq, c_ne, at0, at1, at2, ix0, ix1, ix2, v_var, v_int, v_str, v_bl, v_non, v_glob, v_add, v_sub, v_neg, v_idx, v_len, onV_d, onV_scr, onW_d, onW_scr, onW_own, simR, sv, frzT, E.sim?, E.var?, SE.var?, Tv.item, Tv.len, PyData.itemsOf, List.map_cons, List.map_nil, List.replicate, List.cons_append, List.nil_append, List.length_cons, List.length_nil, List.set_cons_zero, List.set_cons_succ, List.getElem?_cons_zero, List.getElem?_cons_succ, Option.join_some, Option.some.injEq, Option.map_some, exists_eq', exists_eq, exists_eq_left', exists_eq_left, exists_and_left, Option.bind_some, Option.bind_eq_bind, Option.pure_def, wipeR, restR, keepD, Tv.d.injEq, Tv.own.injEq, PyData.int.injEq, PyData.bool.injEq, PyData.tuple.injEq, PyData.list.injEq, PyData.str.injEq, List.cons.injEq, and_true, if_tt, if_ff, Option.bind_none, Option.getD_none, Option.getD_some, Int.sub_zero, Int.zero_add, and_assoc, true_and, exists_const, Nat.reduceAdd, Nat.reduceLT, Nat.reduceSub, Nat.zero_add]
      rw [r_cons]
      simp only [q_callO hA rfl, args33, feAddBoth, r_nil, r_set, r_unp, r_par, r_ix1, r_ix2, r_ixp, r_ixe, r_app, r_ext, r_expr, r_ret, r_retv, r_retN, r_if, r_for, r_while, r_pass, r_brk, r_cont, q_sim, q_bin, q_neg, q_cmp, q_isN, q_notN, q_chain, q_and, q_or, q_and1, q_and2, q_or1, q_or2, q_not, q_ite, q_tup, q_lst, q_idx, q_slice, q_rev, q_blt1, q_bltv, q_blt2, q_sortset, q_lrng, q_lc, q_pop, q_index, q_es0, q_es1, q_o0, q_o1, q_c0, q_c1, q_seq, q_rng, q_enum, q_zip, g_name, g_tup, g_t0, g_t1, o_add, o_sub, o_mul, o_fdiv, o_mod, o_pow, f_d, f_nil, c_lt, c_le, c_gt, c_ge, c_eq, c_ne, at0, at1, at2, ix0, ix1, ix2, v_var, v_int, v_str, v_bl, v_non, v_glob, v_add, v_sub, v_neg, v_idx, v_len, onV_d, onV_scr, onW_d, onW_scr, onW_own, simR, sv, frzT, E.sim?, E.var?, SE.var?, Tv.item, Tv.len, PyData.itemsOf, List.map_cons, List.map_nil, List.replicate, List.cons_append, List.nil_append, List.length_cons, List.length_nil, List.set_cons_zero, List.set_cons_succ, List.getElem?_cons_zero, List.getElem?_cons_succ, Option.join_some, Option.some.injEq, Option.map_some, exists_eq', exists_eq, exists_eq_left', exists_eq_left, exists_and_left, Option.bind_some, Option.bind_eq_bind, Option.pure_def, wipeR, restR, keepD, Tv.d.injEq, Tv.own.injEq, PyData.int.injEq, PyData.bool.injEq, PyData.tuple.injEq, PyData.list.injEq, PyData.str.injEq, List.cons.injEq, and_true, if_tt, if_ff, Option.bind_none, Option.getD_none, Option.getD_some, Int.sub_zero, Int.zero_add, and_assoc, true_and, exists_const, Nat.reduceAdd, Nat.reduceLT, Nat.reduceSub, Nat.zero_add]
      refine ⟨P, _, q.1, p.2, _, rfl, hq1, hp2, fun rest => ?_⟩
      simp only [r_nil, r_cons, r_set, r_unp, r_par, r_ix1, r_ix2, r_ixp, r_ixe, r_app, r_ext, r_expr, r_ret, r_retv, r_retN, r_if, r_for, r_while, r_pass, r_brk, r_cont, q_sim, q_bin, q_neg, q_cmp, q_isN, q_notN, q_chain, q_and, q_or, q_and1, q_and2, q_or1, q_or2, q_not, q_ite, q_tup, q_lst, q_idx, q_slice, q_rev, q_blt1, q_bltv, q_blt2, q_sortset, q_lrng, q_lc, q_pop, q_index, q_es0, q_es1, q_o0, q_o1, q_c0, q_c1, q_seq, q_rng, q_enum, q_zip, g_name, g_tup, g_t0, g_t1, o_add, o_sub, o_mul, o_fdiv, o_mod, o_pow, f_d, f_nil, c_lt, c_le, c_gt, c_ge, c_eq, c_ne, at0, at1, at2, ix0, ix1, ix2, v_var, v_int, v_str, v_bl, v_non, v_glob, v_add, v_sub, v_neg, v_idx, v_len, onV_d, onV_scr, onW_d, onW_scr, onW_own, simR, sv, frzT, E.sim?, E.var?, SE.var?, Tv.item, Tv.len, PyData.itemsOf, List.map_cons, List.map_nil, List.replicate, List.cons_append, List.nil_append, List.length_cons, List.length_nil, List.set_cons_zero, List.set_cons_succ, List.getElem?_cons_zero, List.getElem?_cons_succ, Option.join_some, Option.some.injEq, Option.map_some, exists_eq', exists_eq, exists_eq_left', exists_eq_left, exists_and_left, Option.bind_some, Option.bind_eq_bind, Option.pure_def, wipeR, restR, keepD, Tv.d.injEq, Tv.own.injEq, PyData.int.injEq, PyData.bool.injEq, PyData.tuple.injEq, PyData.list.injEq, PyData.str.injEq, List.cons.injEq, and_true, if_tt, if_ff, Option.bind_none, Option.getD_none, Option.getD_some, Int.sub_zero, Int.zero_add, and_assoc, true_and, exists_const, Nat.reduceAdd, Nat.reduceLT, Nat.reduceSub, Nat.zero_add]
      rw [hnext2]
    · rintro ρ2 rfl
      rw [List.length_map, List.take_length]
      simp only [r_nil, r_cons, r_set, r_unp, r_par, r_ix1, r_ix2, r_ixp, r_ixe, r_app, r_ext, r_expr, r_ret, r_retv, r_retN, r_if, r_for, r_while, r_pass, r_brk, r_cont, q_sim, q_bin, q_neg, q_cmp, q_isN, q_notN, q_chain, q_and, q_or, q_and1, q_and2, q_or1, q_or2, q_not, q_ite, q_tup, q_lst, q_idx, q_slice, q_rev, q_blt1, q_bltv, q_blt2, q_sortset, q_lrng, q_lc, q_pop, q_index, q_es0, q_es1, q_o0, q_o1, q_c0, q_c1, q_seq, q_rng, q_enum, q_zip, g_name, g_tup, g_t0, g_t1, o_add, o_sub, o_mul, o_fdiv, o_mod, o_pow, f_d, f_nil, c_lt, c_le, c_gt, c_ge, c_eq, c_ne, at0, at1, at2, ix0, ix1, ix2, v_var, v_int, v_str, v_bl, v_non, v_glob, v_add, v_sub, v_neg, v_idx, v_len, onV_d, onV_scr, onW_d, onW_scr, onW_own, simR, sv, frzT, E.sim?, E.var?, SE.var?, Tv.item, Tv.len, PyData.itemsOf, List.map_cons, List.map_nil, List.replicate, List.cons_append, List.nil_append, List.length_cons, List.length_nil, List.set_cons_zero, List.set_cons_succ, List.getElem?_cons_zero, List.getElem?_cons_succ, Option.join_some, Option.some.injEq, Option.map_some, exists_eq', exists_eq, exists_eq_left', exists_eq_left, exists_and_left, Option.bind_some, Option.bind_eq_bind, Option.pure_def, wipeR, restR, keepD, Tv.d.injEq, Tv.own.injEq, PyData.int.injEq, PyData.bool.injEq, PyData.tuple.injEq, PyData.list.injEq, PyData.str.injEq, List.cons.injEq, and_true, if_tt, if_ff, Option.bind_none, Option.getD_none, Option.getD_some, Int.sub_zero, Int.zero_add, and_assoc, true_and, exists_const, Nat.reduceAdd, Nat.reduceLT, Nat.reduceSub, Nat.zero_add]
      rw [hnext]
  · rintro ρ2 rfl
    simp only [List.length_mapIdx, List.length_map, r_nil, r_cons, r_set, r_unp, r_par, r_ix1, r_ix2, r_ixp, r_ixe, r_app, r_ext, r_expr, r_ret, r_retv, r_retN, r_if, r_for, r_while, r_pass, r_brk, r_cont, q_sim, q_bin, q_neg, q_cmp, q_isN, q_notN, q_chain, q_and, q_or, q_and1, q_and2, q_or1, q_or2, q_not, q_ite, q_tup, q_lst, q_idx, q_slice, q_rev, q_blt1, q_bltv, q_blt2, q_sortset, q_lrng, q_lc, q_pop, q_index, q_es0, q_es1, q_o0, q_o1, q_c0, q_c1, q_seq, q_rng, q_enum, q_zip, g_name, g_tup, g_t0, g_t1, o_add, o_sub, o_mul, o_fdiv, o_mod, o_pow, f_d, f_nil, c_lt, c_le, c_gt, c_ge, c_eq, c_ne, at0, at1, at2, ix0, ix1, ix2, v_var, v_int, v_str, v_bl, v_non, v_glob, v_add, v_sub, v_neg, v_idx, v_len, onV_d, onV_scr, onW_d, onW_scr, onW_own, simR, sv, frzT, E.sim?, E.var?, SE.var?, Tv.item, Tv.len, PyData.itemsOf, List.map_cons, List.map_nil, List.replicate, List.cons_append, List.nil_append, List.length_cons, List.length_nil, List.set_cons_zero, List.set_cons_succ, List.getElem?_cons_zero, List.getElem?_cons_succ, Option.join_some, Option.some.injEq, Option.map_some, exists_eq', exists_eq, exists_eq_left', exists_eq_left, exists_and_left, Option.bind_some, Option.bind_eq_bind, Option.pure_def, wipeR, restR, keepD, Tv.d.injEq, Tv.own.injEq, PyData.int.injEq, PyData.bool.injEq, PyData.tuple.injEq, PyData.list.injEq, PyData.str.injEq, List.cons.injEq, and_true, if_tt, if_ff, Option.bind_none, Option.getD_none, Option.getD_some, Int.sub_zero, Int.zero_add, and_assoc, true_and, exists_const, Nat.reduceAdd, Nat.reduceLT, Nat.reduceSub, Nat.zero_add]
    have e : matL P (addL zeroF (progAdds ((own.length : Int) - 1) own own.length)) = matL P (cell own) := mat_ext fun a b _ _ => by
      rw [addL_val, prog_cell]
      exact Int.zero_add _
    rw [e]
    exact hq _
end Tr
set_option Elab.async false
set_option linter.all false
set_option maxRecDepth 100000
set_option maxHeartbeats 4000000
set_option exponentiation.threshold 3000
namespace Tr
open PySem PySem.Spec PyProof.Rows L2
def neT0 : PyData → Bool
  | .tuple [_, .int n, .int e] => !(n == e)
  | _ => false
theorem plays_ne0 {pr pk : Int} {ss : List PyData} (h : PlanOk pr pk ss) : ∀ x ∈ playsL ss, neT0 x = true := fun x hx => by
  obtain ⟨s, hs, hx⟩ := List.mem_flatMap.mp (List.mem_mergeSort.mp hx)
  have h1 := h.fit.ne s hs
  obtain ⟨t, n, e, ps, rfl, _⟩ := h.sit s hs
  rw [trips_sit] at hx
  obtain ⟨p, _, rfl⟩ := List.mem_map.mp hx
  exact h1
def sideN : PyData → Nat × Nat
  | .tuple [_, .int n, .int e] => (n.toNat, e.toNat)
  | _ => (0, 0)
def ownP (pl : List PyData) (p : Nat) : Prs := (pl.filter (packIs (p : Nat))).map sideN
theorem own_side {pr pk : Int} {pl : List PyData} (h : ∀ x ∈ pl, Trip pr pk x) (p : Nat) : ((pl.filter (packIs (p : Nat))).map sideD) = (ownP pl p).map pairD := by
  unfold ownP
  rw [List.map_map]
  refine List.map_congr_left fun t ht => ?_
  obtain ⟨q, n, e, rfl, b1, b2, b3, b4, b5, b6⟩ := h t (List.mem_filter.mp ht).1
  show PyData.tuple [.int n, .int e] = .tuple [.int (n.toNat : Nat), .int (e.toNat : Nat)]
  rw [Int.toNat_of_nonneg b3, Int.toNat_of_nonneg b5]
theorem own_in {pr pk : Int} {pl : List PyData} (h : ∀ x ∈ pl, Trip pr pk x) (hl : pl.length ≤ 480) (p : Nat) : PrsIn pr.toNat (ownP pl p) := by
  refine ⟨?_, fun q hq => ?_⟩
  · unfold ownP
    rw [List.length_map]
    exact Nat.le_trans (List.length_filter_le _ _) hl
  · obtain ⟨t, ht, rfl⟩ := List.mem_map.mp hq
    obtain ⟨q, n, e, rfl, b1, b2, b3, b4, b5, b6⟩ := h t (List.mem_filter.mp ht).1
    show n.toNat < pr.toNat ∧ e.toNat < pr.toNat
    omega
theorem own_one {pr pk : Int} {ss : List PyData} (h : PlanOk pr pk ss) (p : Nat) : OneSeat (ownP (playsL ss) p) := by
  have hall := plays_all h
  refine ⟨fun a => ?_, fun q hq => ?_⟩
  · have h1 := h.fit.one (a : Nat) (p : Nat)
    unfold seatN at h1
    have h2 : (playsL ss).countP (seatAt (a : Nat) (p : Nat)) ≤ 1 := by
      unfold playsL
      rw [(List.mergeSort_perm (ss.flatMap tripsOf) dle).countP_eq]
      exact h1
    unfold ownP
    rw [List.filter_map, List.length_map, List.filter_filter, ← List.countP_eq_length_filter]
    refine Nat.le_trans (Nat.le_of_eq (List.countP_congr fun t ht => ?_)) h2
    obtain ⟨q, n, e, rfl, b1, b2, b3, b4, b5, b6⟩ := hall t ht
    have e1 : (has a (sideN (tripD q n e))) = ((a : Int) == n || (a : Int) == e) := by
      have e2 : (a == n.toNat) = ((a : Int) == n) := by
        rw [Bool.eq_iff_iff, beq_iff_eq, beq_iff_eq]
        omega
      have e3 : (a == e.toNat) = ((a : Int) == e) := by
        rw [Bool.eq_iff_iff, beq_iff_eq, beq_iff_eq]
        omega
      show (a == n.toNat || a == e.toNat) = _
      rw [e2, e3]
    show ((has a (sideN (tripD q n e)) && packIs (p : Nat) (tripD q n e)) = true) ↔ ((q == (p : Nat) && ((a : Int) == n || (a : Int) == e)) = true)
    rw [e1]
    show ((_ && (q == (p : Nat))) = true) ↔ _
    rw [Bool.and_comm]
  · obtain ⟨t, ht, rfl⟩ := List.mem_map.mp hq
    have ht := (List.mem_filter.mp ht).1
    have h1 := plays_ne0 h t ht
    obtain ⟨q, n, e, rfl, b1, b2, b3, b4, b5, b6⟩ := hall t ht
    show n.toNat ≠ e.toNat
    have h1 : (!(n == e)) = true := h1
    have : n ≠ e := by simpa using h1
    omega
/-- how often two pairs are held against one another, over k packs -/
def tabK (pl : List PyData) (k : Nat) : TF := fun a b => ((List.range k).map fun p => cell (ownP pl p) a b).sum
theorem tab_succ (pl : List PyData) (k : Nat) (a b : Nat) : tabK pl (k + 1) a b = tabK pl k a b + cell (ownP pl k) a b := by
  unfold tabK
  rw [List.range_succ, List.map_append, List.sum_append]
  simp
def tabD (P : Nat) (f : TF) : PyData := .tuple ((List.range P).map fun i => .tuple (rowD P (f i)))
def bTable : SL := (.cons (.set 1 (.lc (.bin .mul (.lst (.cons (.sim (.int 0)) .nil)) (.sim (.idx (.var 0) (.int 0)))) (.name 4) (.rng .non (.sim (.idx (.var 0) (.int 0)))) .non [4]))
  (.cons (.for_ (.name 2) (.rng .non (.sim (.idx (.var 0) (.int 1))))
  (.cons (.set 3 (.call "rows_of" (.cons (.sim (.idx (.var 0) (.int 0))) (.cons (.call "plays_of" (.cons (.sim (.var 0)) (.cons (.sim (.var 2)) .nil))) .nil))))
  (.cons (.set 1 (.lc (.lc (.bin .add (.sim (.var 8)) (.sim (.var 9))) (.tup (.cons (.name 8) (.cons (.name 9) .nil))) (.zip (.sim (.var 6)) (.sim (.var 7))) .non [8, 9]) (.tup (.cons (.name 6) (.cons (.name 7) .nil))) (.zip (.sim (.var 1)) (.sim (.var 3))) .non [6, 7]))
  .nil))
  [2, 3])
  (.cons (.ret (.blt1 .tuple (.lc (.blt1 .tuple (.sim (.var 5))) (.name 5) (.seq (.sim (.var 1))) .non [5])))
  .nil)))
def feRowsOf : FE := ⟨["pairs", "own"], [], none, spRowsOf⟩
def spTable : FS := fun xs Q => ∃ (pr pk : Int) (ss : List PyData), xs = [.d (planD pr pk ss)] ∧ PlanOk pr pk ss ∧ ∀ rest, Q (.d (tabD pr.toNat (tabK (playsL ss) pk.toNat))) rest
theorem zip_mat {P : Nat} {f g : TF} {i : Nat} {y : PyData} (h : (List.zipWith (fun p q => PyData.tuple [p, q]) (matD P f) (matD P g))[i]? = some y) : i < P ∧ y = .tuple [.list (rowD P (f i)), .list (rowD P (g i))] := by
  have hi := (List.getElem?_eq_some_iff.mp h).1
  rw [List.length_zipWith] at hi
  unfold matD at h hi
  rw [List.length_map, List.length_map, List.length_range, Nat.min_self] at hi
  rw [List.getElem?_zipWith, List.getElem?_map, List.getElem?_map, List.getElem?_range hi] at h
  cases h
  exact ⟨hi, rfl⟩
theorem zip_row {P : Nat} {f g : Nat → Int} {i : Nat} {y : PyData} (h : (List.zipWith (fun p q => PyData.tuple [p, q]) (rowD P f) (rowD P g))[i]? = some y) : i < P ∧ y = .tuple [.int (f i), .int (g i)] := by
  have hi := (List.getElem?_eq_some_iff.mp h).1
  rw [List.length_zipWith] at hi
  unfold rowD at h hi
  rw [List.length_map, List.length_map, List.length_range, Nat.min_self] at hi
  rw [List.getElem?_zipWith, List.getElem?_map, List.getElem?_map, List.getElem?_range hi] at h
  cases h
  exact ⟨hi, rfl⟩
theorem zip_mat_len (P : Nat) (f g : TF) : (List.zipWith (fun p q => PyData.tuple [p, q]) (matD P f) (matD P g)).length = P := by
  unfold matD
  rw [List.length_zipWith, List.length_map, List.length_map, List.length_range, Nat.min_self]
theorem zip_row_len (P : Nat) (f g : Nat → Int) : (List.zipWith (fun p q => PyData.tuple [p, q]) (rowD P f) (rowD P g)).length = P := by
  unfold rowD
  rw [List.length_zipWith, List.length_map, List.length_map, List.length_range, Nat.min_self]
theorem ok_table {Γ : Gam} {Φ : Phi} (hR : Φ "rows_of" = some feRowsOf) (hO : Φ "plays_of" = some fePlaysOf) : ∀ xs Q, spTable xs Q → fsOf Γ Φ 1 10 bTable xs Q := by
  rintro xs Q ⟨pr, pk, ss, rfl, hP, hq⟩
  refine ⟨rfl, ?_⟩
  have hp1 := hP.p1
  have hp2 := hP.p2
  have hk1 := hP.k1
  have hk2 := hP.k2
  have hall := plays_all hP
  have hlen := plays_len hP
  rw [bTable, r_cons]
  simp only [planD, at0, r_nil, r_set, r_unp, r_par, r_ix1, r_ix2, r_ixp, r_ixe, r_app, r_ext, r_expr, r_ret, r_retv, r_retN, r_if, r_for, r_while, r_pass, r_brk, r_cont, q_sim, q_bin, q_neg, q_cmp, q_isN, q_notN, q_chain, q_and, q_or, q_and1, q_and2, q_or1, q_or2, q_not, q_ite, q_tup, q_lst, q_idx, q_slice, q_rev, q_blt1, q_bltv, q_blt2, q_sortset, q_lrng, q_lc, q_pop, q_index, q_es0, q_es1, q_o0, q_o1, q_c0, q_c1, q_seq, q_rng, q_enum, q_zip, g_name, g_tup, g_t0, g_t1, o_add, o_sub, o_mul, o_fdiv, o_mod, o_pow, f_d, f_nil, c_lt, c_le, c_gt, c_ge, c_eq, c_ne, at0, at1, at2, ix0, ix1, ix2, v_var, v_int, v_str, v_bl, v_non, v_glob, v_add, v_sub, v_neg, v_idx, v_len, onV_d, onV_scr, onW_d, onW_scr, onW_own, simR, sv, frzT, E.sim?, E.var?, SE.var?, Tv.item, Tv.len, PyData.itemsOf, List.map_cons, List.map_nil, List.replicate, List.cons_append, List.nil_append, List.length_cons, List.length_nil, List.set_cons_zero, List.set_cons_succ, List.getElem?_cons_zero, List.getElem?_cons_succ, Option.join_some, Option.some.injEq, Option.map_some, exists_eq', exists_eq, exists_eq_left', exists_eq_left, exists_and_left, Option.bind_some, Option.bind_eq_bind, Option.pure_def, wipeR, restR, keepD, Tv.d.injEq, Tv.own.injEq, PyData.int.injEq, PyData.bool.injEq, PyData.tuple.injEq, PyData.list.injEq, PyData.str.injEq, List.cons.injEq, and_true, if_tt, if_ff, Option.bind_none, Option.getD_none, Option.getD_some, Int.sub_zero, Int.zero_add, and_assoc, true_and, exists_const, Nat.reduceAdd, Nat.reduceLT, Nat.reduceSub, Nat.zero_add]
  refine ⟨by decide, by decide, by omega, by omega, fun j acc ρ => acc = (List.range j).map (fun _ => rowT pr.toNat fun _ => 0) ∧ ρ = [some (.d (planD pr pk ss)), none, none, none, none, none, none, none, none, none], ⟨rfl, rfl⟩, ?_, ?_⟩
  · rintro j y acc ρ2 hy ⟨rfl, rfl⟩
    have hj := (List.getElem?_eq_some_iff.mp hy).1
    simp only [List.length_map, List.length_range] at hj
    simp only [planD, at0, List.length_map, List.length_range, r_nil, r_cons, r_set, r_unp, r_par, r_ix1, r_ix2, r_ixp, r_ixe, r_app, r_ext, r_expr, r_ret, r_retv, r_retN, r_if, r_for, r_while, r_pass, r_brk, r_cont, q_sim, q_bin, q_neg, q_cmp, q_isN, q_notN, q_chain, q_and, q_or, q_and1, q_and2, q_or1, q_or2, q_not, q_ite, q_tup, q_lst, q_idx, q_slice, q_rev, q_blt1, q_bltv, q_blt2, q_sortset, q_lrng, q_lc, q_pop, q_index, q_es0, q_es1, q_o0, q_o1, q_c0, q_c1, q_seq, q_rng, q_enum, q_zip, g_name, g_tup, g_t0, g_t1, o_add, o_sub, o_mul, o_fdiv, o_mod, o_pow, f_d, f_nil, c_lt, c_le, c_gt, c_ge, c_eq, c_ne, at0, at1, at2, ix0, ix1, ix2, v_var, v_int, v_str, v_bl, v_non, v_glob, v_add, v_sub, v_neg, v_idx, v_len, onV_d, onV_scr, onW_d, onW_scr, onW_own, simR, sv, frzT, E.sim?, E.var?, SE.var?, Tv.item, Tv.len, PyData.itemsOf, List.map_cons, List.map_nil, List.replicate, List.cons_append, List.nil_append, List.length_cons, List.length_nil, List.set_cons_zero, List.set_cons_succ, List.getElem?_cons_zero, List.getElem?_cons_succ, Option.join_some, Option.some.injEq, Option.map_some, exists_eq', exists_eq, exists_eq_left', exists_eq_left, exists_and_left, Option.bind_some, Option.bind_eq_bind, Option.pure_def, wipeR, restR, keepD, Tv.d.injEq, Tv.own.injEq, PyData.int.injEq, PyData.bool.injEq, PyData.tuple.injEq, PyData.list.injEq, PyData.str.injEq, List.cons.injEq, and_true, if_tt, if_ff, Option.bind_none, Option.getD_none, Option.getD_some, Int.sub_zero, Int.zero_add, and_assoc, true_and, exists_const, Nat.reduceAdd, Nat.reduceLT, Nat.reduceSub, Nat.zero_add]
    refine ⟨fun _ => ⟨[.int 0], fo1, by omega, by omega, by rw [sizeLine_eq]; exact Nat.le_trans (Nat.mul_le_mul_left 1 (show pr.toNat ≤ 10 by omega)) (by decide), small64 (by omega), ?_⟩, fun z => (nomatch z)⟩
    rw [zero_row, List.range_succ, List.map_append]
    rfl
  rintro acc ρ2 ⟨rfl, rfl⟩
  simp only [List.length_map, List.length_range, r_nil, r_set, r_unp, r_par, r_ix1, r_ix2, r_ixp, r_ixe, r_app, r_ext, r_expr, r_ret, r_retv, r_retN, r_if, r_for, r_while, r_pass, r_brk, r_cont, q_sim, q_bin, q_neg, q_cmp, q_isN, q_notN, q_chain, q_and, q_or, q_and1, q_and2, q_or1, q_or2, q_not, q_ite, q_tup, q_lst, q_idx, q_slice, q_rev, q_blt1, q_bltv, q_blt2, q_sortset, q_lrng, q_lc, q_pop, q_index, q_es0, q_es1, q_o0, q_o1, q_c0, q_c1, q_seq, q_rng, q_enum, q_zip, g_name, g_tup, g_t0, g_t1, o_add, o_sub, o_mul, o_fdiv, o_mod, o_pow, f_d, f_nil, c_lt, c_le, c_gt, c_ge, c_eq, c_ne, at0, at1, at2, ix0, ix1, ix2, v_var, v_int, v_str, v_bl, v_non, v_glob, v_add, v_sub, v_neg, v_idx, v_len, onV_d, onV_scr, onW_d, onW_scr, onW_own, simR, sv, frzT, E.sim?, E.var?, SE.var?, Tv.item, Tv.len, PyData.itemsOf, List.map_cons, List.map_nil, List.replicate, List.cons_append, List.nil_append, List.length_cons, List.length_nil, List.set_cons_zero, List.set_cons_succ, List.getElem?_cons_zero, List.getElem?_cons_succ, Option.join_some, Option.some.injEq, Option.map_some, exists_eq', exists_eq, exists_eq_left', exists_eq_left, exists_and_left, Option.bind_some, Option.bind_eq_bind, Option.pure_def, wipeR, restR, keepD, Tv.d.injEq, Tv.own.injEq, PyData.int.injEq, PyData.bool.injEq, PyData.tuple.injEq, PyData.list.injEq, PyData.str.injEq, List.cons.injEq, and_true, if_tt, if_ff, Option.bind_none, Option.getD_none, Option.getD_some, Int.sub_zero, Int.zero_add, and_assoc, true_and, exists_const, Nat.reduceAdd, Nat.reduceLT, Nat.reduceSub, Nat.zero_add]
  have hz : ((List.range pr.toNat).map fun _ => rowT pr.toNat fun _ => (0 : Int)) = matL pr.toNat (tabK (playsL ss) 0) := rfl
  rw [hz, r_cons]
  simp only [planD, at1, r_nil, r_set, r_unp, r_par, r_ix1, r_ix2, r_ixp, r_ixe, r_app, r_ext, r_expr, r_ret, r_retv, r_retN, r_if, r_for, r_while, r_pass, r_brk, r_cont, q_sim, q_bin, q_neg, q_cmp, q_isN, q_notN, q_chain, q_and, q_or, q_and1, q_and2, q_or1, q_or2, q_not, q_ite, q_tup, q_lst, q_idx, q_slice, q_rev, q_blt1, q_bltv, q_blt2, q_sortset, q_lrng, q_lc, q_pop, q_index, q_es0, q_es1, q_o0, q_o1, q_c0, q_c1, q_seq, q_rng, q_enum, q_zip, g_name, g_tup, g_t0, g_t1, o_add, o_sub, o_mul, o_fdiv, o_mod, o_pow, f_d, f_nil, c_lt, c_le, c_gt, c_ge, c_eq, c_ne, at0, at1, at2, ix0, ix1, ix2, v_var, v_int, v_str, v_bl, v_non, v_glob, v_add, v_sub, v_neg, v_idx, v_len, onV_d, onV_scr, onW_d, onW_scr, onW_own, simR, sv, frzT, E.sim?, E.var?, SE.var?, Tv.item, Tv.len, PyData.itemsOf, List.map_cons, List.map_nil, List.replicate, List.cons_append, List.nil_append, List.length_cons, List.length_nil, List.set_cons_zero, List.set_cons_succ, List.getElem?_cons_zero, List.getElem?_cons_succ, Option.join_some, Option.some.injEq, Option.map_some, exists_eq', exists_eq, exists_eq_left', exists_eq_left, exists_and_left, Option.bind_some, Option.bind_eq_bind, Option.pure_def, wipeR, restR, keepD, Tv.d.injEq, Tv.own.injEq, PyData.int.injEq, PyData.bool.injEq, PyData.tuple.injEq, PyData.list.injEq, PyData.str.injEq, List.cons.injEq, and_true, if_tt, if_ff, Option.bind_none, Option.getD_none, Option.getD_some, Int.sub_zero, Int.zero_add, and_assoc, true_and, exists_const, Nat.reduceAdd, Nat.reduceLT, Nat.reduceSub, Nat.zero_add]
  refine ⟨by decide, by decide, by omega, by omega, fun k ρ => ρ = [some (.d (planD pr pk ss)), some (.own (matL pr.toNat (tabK (playsL ss) k))), none, none, none, none, none, none, none, none], rfl, ?_, ?_⟩
  · rintro k x ρ2 hx rfl
    have hk := (List.getElem?_eq_some_iff.mp hx).1
    simp only [List.length_map, List.length_range] at hk
    simp only [List.getElem?_map, List.getElem?_range hk, Option.map_some, Option.some.injEq] at hx
    subst hx
    simp only [r_nil, r_set, r_unp, r_par, r_ix1, r_ix2, r_ixp, r_ixe, r_app, r_ext, r_expr, r_ret, r_retv, r_retN, r_if, r_for, r_while, r_pass, r_brk, r_cont, q_sim, q_bin, q_neg, q_cmp, q_isN, q_notN, q_chain, q_and, q_or, q_and1, q_and2, q_or1, q_or2, q_not, q_ite, q_tup, q_lst, q_idx, q_slice, q_rev, q_blt1, q_bltv, q_blt2, q_sortset, q_lrng, q_lc, q_pop, q_index, q_es0, q_es1, q_o0, q_o1, q_c0, q_c1, q_seq, q_rng, q_enum, q_zip, g_name, g_tup, g_t0, g_t1, o_add, o_sub, o_mul, o_fdiv, o_mod, o_pow, f_d, f_nil, c_lt, c_le, c_gt, c_ge, c_eq, c_ne, at0, at1, at2, ix0, ix1, ix2, v_var, v_int, v_str, v_bl, v_non, v_glob, v_add, v_sub, v_neg, v_idx, v_len, onV_d, onV_scr, onW_d, onW_scr, onW_own, simR, sv, frzT, E.sim?, E.var?, SE.var?, Tv.item, Tv.len, PyData.itemsOf, List.map_cons, List.map_nil, List.replicate, List.cons_append, List.nil_append, List.length_cons, List.length_nil, List.set_cons_zero, List.set_cons_succ, List.getElem?_cons_zero, List.getElem?_cons_succ, Option.join_some, Option.some.injEq, Option.map_some, exists_eq', exists_eq, exists_eq_left', exists_eq_left, exists_and_left, Option.bind_some, Option.bind_eq_bind, Option.pure_def, wipeR, restR, keepD, Tv.d.injEq, Tv.own.injEq, PyData.int.injEq, PyData.bool.injEq, PyData.tuple.injEq, PyData.list.injEq, PyData.str.injEq, List.cons.injEq, and_true, if_tt, if_ff, Option.bind_none, Option.getD_none, Option.getD_some, Int.sub_zero, Int.zero_add, and_assoc, true_and, exists_const, Nat.reduceAdd, Nat.reduceLT, Nat.reduceSub, Nat.zero_add]
    rw [r_cons]
    simp only [planD, at0, q_call hR rfl, q_call hO rfl, args2, args22, feRowsOf, fePlaysOf, r_nil, r_set, r_unp, r_par, r_ix1, r_ix2, r_ixp, r_ixe, r_app, r_ext, r_expr, r_ret, r_retv, r_retN, r_if, r_for, r_while, r_pass, r_brk, r_cont, q_sim, q_bin, q_neg, q_cmp, q_isN, q_notN, q_chain, q_and, q_or, q_and1, q_and2, q_or1, q_or2, q_not, q_ite, q_tup, q_lst, q_idx, q_slice, q_rev, q_blt1, q_bltv, q_blt2, q_sortset, q_lrng, q_lc, q_pop, q_index, q_es0, q_es1, q_o0, q_o1, q_c0, q_c1, q_seq, q_rng, q_enum, q_zip, g_name, g_tup, g_t0, g_t1, o_add, o_sub, o_mul, o_fdiv, o_mod, o_pow, f_d, f_nil, c_lt, c_le, c_gt, c_ge, c_eq, c_ne, at0, at1, at2, ix0, ix1, ix2, v_var, v_int, v_str, v_bl, v_non, v_glob, v_add, v_sub, v_neg, v_idx, v_len, onV_d, onV_scr, onW_d, onW_scr, onW_own, simR, sv, frzT, E.sim?, E.var?, SE.var?, Tv.item, Tv.len, PyData.itemsOf, List.map_cons, List.map_nil, List.replicate, List.cons_append, List.nil_append, List.length_cons, List.length_nil, List.set_cons_zero, List.set_cons_succ, List.getElem?_cons_zero, List.getElem?_cons_succ, Option.join_some, Option.some.injEq, Option.map_some, exists_eq', exists_eq, exists_eq_left', exists_eq_left, exists_and_left, Option.bind_some, Option.bind_eq_bind, Option.pure_def, wipeR, restR, keepD, Tv.d.injEq, Tv.own.injEq, PyData.int.injEq, PyData.bool.injEq, PyData.tuple.injEq, PyData.list.injEq, PyData.str.injEq, List.cons.injEq, and_true, if_tt, if_ff, Option.bind_none, Option.getD_none, Option.getD_some, Int.sub_zero, Int.zero_add, and_assoc, true_and, exists_const, Nat.reduceAdd, Nat.reduceLT, Nat.reduceSub, Nat.zero_add]
    refine ⟨pr, pk, ss, _, rfl, hP, fun rest => ?_⟩
    rw [own_side hall]
    simp only [args2, r_nil, r_set, r_unp, r_par, r_ix1, r_ix2, r_ixp, r_ixe, r_app, r_ext, r_expr, r_ret, r_retv, r_retN, r_if, r_for, r_while, r_pass, r_brk, r_cont, q_sim, q_bin, q_neg, q_cmp, q_isN, q_notN, q_chain, q_and, q_or, q_and1, q_and2, q_or1, q_or2, q_not, q_ite, q_tup, q_lst, q_idx, q_slice, q_rev, q_blt1, q_bltv, q_blt2, q_sortset, q_lrng, q_lc, q_pop, q_index, q_es0, q_es1, q_o0, q_o1, q_c0, q_c1, q_seq, q_rng, q_enum, q_zip, g_name, g_tup, g_t0, g_t1, o_add, o_sub, o_mul, o_fdiv, o_mod, o_pow, f_d, f_nil, c_lt, c_le, c_gt, c_ge, c_eq, c_ne, at0, at1, at2, ix0, ix1, ix2, v_var, v_int, v_str, v_bl, v_non, v_glob, v_add, v_sub, v_neg, v_idx, v_len, onV_d, onV_scr, onW_d, onW_scr, onW_own, simR, sv, frzT, E.sim?, E.var?, SE.var?, Tv.item, Tv.len, PyData.itemsOf, List.map_cons, List.map_nil, List.replicate, List.cons_append, List.nil_append, List.length_cons, List.length_nil, List.set_cons_zero, List.set_cons_succ, List.getElem?_cons_zero, List.getElem?_cons_succ, Option.join_some, Option.some.injEq, Option.map_some, exists_eq', exists_eq, exists_eq_left', exists_eq_left, exists_and_left, Option.bind_some, Option.bind_eq_bind, Option.pure_def, wipeR, restR, keepD, Tv.d.injEq, Tv.own.injEq, PyData.int.injEq, PyData.bool.injEq, PyData.tuple.injEq, PyData.list.injEq, PyData.str.injEq, List.cons.injEq, and_true, if_tt, if_ff, Option.bind_none, Option.getD_none, Option.getD_some, Int.sub_zero, Int.zero_add, and_assoc, true_and, exists_const, Nat.reduceAdd, Nat.reduceLT, Nat.reduceSub, Nat.zero_add]
    refine ⟨pr.toNat, _, by rw [Int.toNat_of_nonneg (by omega)], by omega, own_in hall hlen k, fun rest => ?_⟩
    simp only [r_nil, r_set, r_unp, r_par, r_ix1, r_ix2, r_ixp, r_ixe, r_app, r_ext, r_expr, r_ret, r_retv, r_retN, r_if, r_for, r_while, r_pass, r_brk, r_cont, q_sim, q_bin, q_neg, q_cmp, q_isN, q_notN, q_chain, q_and, q_or, q_and1, q_and2, q_or1, q_or2, q_not, q_ite, q_tup, q_lst, q_idx, q_slice, q_rev, q_blt1, q_bltv, q_blt2, q_sortset, q_lrng, q_lc, q_pop, q_index, q_es0, q_es1, q_o0, q_o1, q_c0, q_c1, q_seq, q_rng, q_enum, q_zip, g_name, g_tup, g_t0, g_t1, o_add, o_sub, o_mul, o_fdiv, o_mod, o_pow, f_d, f_nil, c_lt, c_le, c_gt, c_ge, c_eq, c_ne, at0, at1, at2, ix0, ix1, ix2, v_var, v_int, v_str, v_bl, v_non, v_glob, v_add, v_sub, v_neg, v_idx, v_len, onV_d, onV_scr, onW_d, onW_scr, onW_own, simR, sv, frzT, E.sim?, E.var?, SE.var?, Tv.item, Tv.len, PyData.itemsOf, List.map_cons, List.map_nil, List.replicate, List.cons_append, List.nil_append, List.length_cons, List.length_nil, List.set_cons_zero, List.set_cons_succ, List.getElem?_cons_zero, List.getElem?_cons_succ, Option.join_some, Option.some.injEq, Option.map_some, exists_eq', exists_eq, exists_eq_left', exists_eq_left, exists_and_left, Option.bind_some, Option.bind_eq_bind, Option.pure_def, wipeR, restR, keepD, Tv.d.injEq, Tv.own.injEq, PyData.int.injEq, PyData.bool.injEq, PyData.tuple.injEq, PyData.list.injEq, PyData.str.injEq, List.cons.injEq, and_true, if_tt, if_ff, Option.bind_none, Option.getD_none, Option.getD_some, Int.sub_zero, Int.zero_add, and_assoc, true_and, exists_const, Nat.reduceAdd, Nat.reduceLT, Nat.reduceSub, Nat.zero_add]
    rw [r_cons]
    simp only [mat_frz, r_nil, r_set, r_unp, r_par, r_ix1, r_ix2, r_ixp, r_ixe, r_app, r_ext, r_expr, r_ret, r_retv, r_retN, r_if, r_for, r_while, r_pass, r_brk, r_cont, q_sim, q_bin, q_neg, q_cmp, q_isN, q_notN, q_chain, q_and, q_or, q_and1, q_and2, q_or1, q_or2, q_not, q_ite, q_tup, q_lst, q_idx, q_slice, q_rev, q_blt1, q_bltv, q_blt2, q_sortset, q_lrng, q_lc, q_pop, q_index, q_es0, q_es1, q_o0, q_o1, q_c0, q_c1, q_seq, q_rng, q_enum, q_zip, g_name, g_tup, g_t0, g_t1, o_add, o_sub, o_mul, o_fdiv, o_mod, o_pow, f_d, f_nil, c_lt, c_le, c_gt, c_ge, c_eq, c_ne, at0, at1, at2, ix0, ix1, ix2, v_var, v_int, v_str, v_bl, v_non, v_glob, v_add, v_sub, v_neg, v_idx, v_len, onV_d, onV_scr, onW_d, onW_scr, onW_own, simR, sv, frzT, E.sim?, E.var?, SE.var?, Tv.item, Tv.len, PyData.itemsOf, List.map_cons, List.map_nil, List.replicate, List.cons_append, List.nil_append, List.length_cons, List.length_nil, List.set_cons_zero, List.set_cons_succ, List.getElem?_cons_zero, List.getElem?_cons_succ, Option.join_some, Option.some.injEq, Option.map_some, exists_eq', exists_eq, exists_eq_left', exists_eq_left, exists_and_left, Option.bind_some, Option.bind_eq_bind, Option.pure_def, wipeR, restR, keepD, Tv.d.injEq, Tv.own.injEq, PyData.int.injEq, PyData.bool.injEq, PyData.tuple.injEq, PyData.list.injEq, PyData.str.injEq, List.cons.injEq, and_true, if_tt, if_ff, Option.bind_none, Option.getD_none, Option.getD_some, Int.sub_zero, Int.zero_add, and_assoc, true_and, exists_const, Nat.reduceAdd, Nat.reduceLT, Nat.reduceSub, Nat.zero_add]
    have hsum : ∀ a b, tabK (playsL ss) (k + 1) a b = tabK (playsL ss) k a b + cell (ownP (playsL ss) k) a b := fun a b => tab_succ _ _ a b
    generalize tabK (playsL ss) k = F at hsum ⊢
    generalize cell (ownP (playsL ss) k) = G at hsum ⊢
    refine ⟨fun i acc ρ => acc = (List.range i).map (fun i => rowT pr.toNat (tabK (playsL ss) (k + 1) i)) ∧ ρ = [some (.d (planD pr pk ss)), some (.d (.list (matD pr.toNat F))), some (.d (.int (k : Nat))), some (.d (.list (matD pr.toNat G))), none, none, none, none, none, none], ⟨rfl, rfl⟩, ?_, ?_⟩
    · rintro i y acc ρ2 hy ⟨rfl, rfl⟩
      obtain ⟨hi, rfl⟩ := zip_mat hy
      simp only [List.length_map, List.length_range, r_nil, r_cons, r_set, r_unp, r_par, r_ix1, r_ix2, r_ixp, r_ixe, r_app, r_ext, r_expr, r_ret, r_retv, r_retN, r_if, r_for, r_while, r_pass, r_brk, r_cont, q_sim, q_bin, q_neg, q_cmp, q_isN, q_notN, q_chain, q_and, q_or, q_and1, q_and2, q_or1, q_or2, q_not, q_ite, q_tup, q_lst, q_idx, q_slice, q_rev, q_blt1, q_bltv, q_blt2, q_sortset, q_lrng, q_lc, q_pop, q_index, q_es0, q_es1, q_o0, q_o1, q_c0, q_c1, q_seq, q_rng, q_enum, q_zip, g_name, g_tup, g_t0, g_t1, o_add, o_sub, o_mul, o_fdiv, o_mod, o_pow, f_d, f_nil, c_lt, c_le, c_gt, c_ge, c_eq, c_ne, at0, at1, at2, ix0, ix1, ix2, v_var, v_int, v_str, v_bl, v_non, v_glob, v_add, v_sub, v_neg, v_idx, v_len, onV_d, onV_scr, onW_d, onW_scr, onW_own, simR, sv, frzT, E.sim?, E.var?, SE.var?, Tv.item, Tv.len, PyData.itemsOf, List.map_cons, List.map_nil, List.replicate, List.cons_append, List.nil_append, List.length_cons, List.length_nil, List.set_cons_zero, List.set_cons_succ, List.getElem?_cons_zero, List.getElem?_cons_succ, Option.join_some, Option.some.injEq, Option.map_some, exists_eq', exists_eq, exists_eq_left', exists_eq_left, exists_and_left, Option.bind_some, Option.bind_eq_bind, Option.pure_def, wipeR, restR, keepD, Tv.d.injEq, Tv.own.injEq, PyData.int.injEq, PyData.bool.injEq, PyData.tuple.injEq, PyData.list.injEq, PyData.str.injEq, List.cons.injEq, and_true, if_tt, if_ff, Option.bind_none, Option.getD_none, Option.getD_some, Int.sub_zero, Int.zero_add, and_assoc, true_and, exists_const, Nat.reduceAdd, Nat.reduceLT, Nat.reduceSub, Nat.zero_add]
      refine ⟨fun _ => ?_, fun z => (nomatch z)⟩
      refine ⟨fun j acc ρ => acc = (List.range j).map (fun j => Tv.d (.int (tabK (playsL ss) (k + 1) i j))) ∧ ρ = [some (.d (planD pr pk ss)), some (.d (.list (matD pr.toNat F))), some (.d (.int (k : Nat))), some (.d (.list (matD pr.toNat G))), none, none, some (.d (.list (rowD pr.toNat (F i)))), some (.d (.list (rowD pr.toNat (G i)))), none, none], ⟨rfl, rfl⟩, ?_, ?_⟩
      · rintro j y acc ρ2 hy ⟨rfl, rfl⟩
        obtain ⟨hj, rfl⟩ := zip_row hy
        simp only [List.length_map, List.length_range, r_nil, r_cons, r_set, r_unp, r_par, r_ix1, r_ix2, r_ixp, r_ixe, r_app, r_ext, r_expr, r_ret, r_retv, r_retN, r_if, r_for, r_while, r_pass, r_brk, r_cont, q_sim, q_bin, q_neg, q_cmp, q_isN, q_notN, q_chain, q_and, q_or, q_and1, q_and2, q_or1, q_or2, q_not, q_ite, q_tup, q_lst, q_idx, q_slice, q_rev, q_blt1, q_bltv, q_blt2, q_sortset, q_lrng, q_lc, q_pop, q_index, q_es0, q_es1, q_o0, q_o1, q_c0, q_c1, q_seq, q_rng, q_enum, q_zip, g_name, g_tup, g_t0, g_t1, o_add, o_sub, o_mul, o_fdiv, o_mod, o_pow, f_d, f_nil, c_lt, c_le, c_gt, c_ge, c_eq, c_ne, at0, at1, at2, ix0, ix1, ix2, v_var, v_int, v_str, v_bl, v_non, v_glob, v_add, v_sub, v_neg, v_idx, v_len, onV_d, onV_scr, onW_d, onW_scr, onW_own, simR, sv, frzT, E.sim?, E.var?, SE.var?, Tv.item, Tv.len, PyData.itemsOf, List.map_cons, List.map_nil, List.replicate, List.cons_append, List.nil_append, List.length_cons, List.length_nil, List.set_cons_zero, List.set_cons_succ, List.getElem?_cons_zero, List.getElem?_cons_succ, Option.join_some, Option.some.injEq, Option.map_some, exists_eq', exists_eq, exists_eq_left', exists_eq_left, exists_and_left, Option.bind_some, Option.bind_eq_bind, Option.pure_def, wipeR, restR, keepD, Tv.d.injEq, Tv.own.injEq, PyData.int.injEq, PyData.bool.injEq, PyData.tuple.injEq, PyData.list.injEq, PyData.str.injEq, List.cons.injEq, and_true, if_tt, if_ff, Option.bind_none, Option.getD_none, Option.getD_some, Int.sub_zero, Int.zero_add, and_assoc, true_and, exists_const, Nat.reduceAdd, Nat.reduceLT, Nat.reduceSub, Nat.zero_add]
        refine ⟨fun _ => ⟨small64 (by omega), ?_⟩, fun z => (nomatch z)⟩
        rw [List.range_succ, List.map_append, List.map_cons, List.map_nil, hsum]
      · rintro acc ρ2 ⟨rfl, rfl⟩
        rw [zip_row_len]
        simp only [r_nil, r_cons, r_set, r_unp, r_par, r_ix1, r_ix2, r_ixp, r_ixe, r_app, r_ext, r_expr, r_ret, r_retv, r_retN, r_if, r_for, r_while, r_pass, r_brk, r_cont, q_sim, q_bin, q_neg, q_cmp, q_isN, q_notN, q_chain, q_and, q_or, q_and1, q_and2, q_or1, q_or2, q_not, q_ite, q_tup, q_lst, q_idx, q_slice, q_rev, q_blt1, q_bltv, q_blt2, q_sortset, q_lrng, q_lc, q_pop, q_index, q_es0, q_es1, q_o0, q_o1, q_c0, q_c1, q_seq, q_rng, q_enum, q_zip, g_name, g_tup, g_t0, g_t1, o_add, o_sub, o_mul, o_fdiv, o_mod, o_pow, f_d, f_nil, c_lt, c_le, c_gt, c_ge, c_eq, c_ne, at0, at1, at2, ix0, ix1, ix2, v_var, v_int, v_str, v_bl, v_non, v_glob, v_add, v_sub, v_neg, v_idx, v_len, onV_d, onV_scr, onW_d, onW_scr, onW_own, simR, sv, frzT, E.sim?, E.var?, SE.var?, Tv.item, Tv.len, PyData.itemsOf, List.map_cons, List.map_nil, List.replicate, List.cons_append, List.nil_append, List.length_cons, List.length_nil, List.set_cons_zero, List.set_cons_succ, List.getElem?_cons_zero, List.getElem?_cons_succ, Option.join_some, Option.some.injEq, Option.map_some, exists_eq', exists_eq, exists_eq_left', exists_eq_left, exists_and_left, Option.bind_some, Option.bind_eq_bind, Option.pure_def, wipeR, restR, keepD, Tv.d.injEq, Tv.own.injEq, PyData.int.injEq, PyData.bool.injEq, PyData.tuple.injEq, PyData.list.injEq, PyData.str.injEq, List.cons.injEq, and_true, if_tt, if_ff, Option.bind_none, Option.getD_none, Option.getD_some, Int.sub_zero, Int.zero_add, and_assoc, true_and, exists_const, Nat.reduceAdd, Nat.reduceLT, Nat.reduceSub, Nat.zero_add]
        refine ⟨small64 (by omega), ?_⟩
        rw [List.range_succ, List.map_append]
        rfl
    · rintro acc ρ2 ⟨rfl, rfl⟩
      rw [zip_mat_len]
      simp only [r_nil, r_cons, r_set, r_unp, r_par, r_ix1, r_ix2, r_ixp, r_ixe, r_app, r_ext, r_expr, r_ret, r_retv, r_retN, r_if, r_for, r_while, r_pass, r_brk, r_cont, q_sim, q_bin, q_neg, q_cmp, q_isN, q_notN, q_chain, q_and, q_or, q_and1, q_and2, q_or1, q_or2, q_not, q_ite, q_tup, q_lst, q_idx, q_slice, q_rev, q_blt1, q_bltv, q_blt2, q_sortset, q_lrng, q_lc, q_pop, q_index, q_es0, q_es1, q_o0, q_o1, q_c0, q_c1, q_seq, q_rng, q_enum, q_zip, g_name, g_tup, g_t0, g_t1, o_add, o_sub, o_mul, o_fdiv, o_mod, o_pow, f_d, f_nil, c_lt, c_le, c_gt, c_ge, c_eq, c_ne, at0, at1, at2, ix0, ix1, ix2, v_var, v_int, v_str, v_bl, v_non, v_glob, v_add, v_sub, v_neg, v_idx, v_len, onV_d, onV_scr, onW_d, onW_scr, onW_own, simR, sv, frzT, E.sim?, E.var?, SE.var?, Tv.item, Tv.len, PyData.itemsOf, List.map_cons, List.map_nil, List.replicate, List.cons_append, List.nil_append, List.length_cons, List.length_nil, List.set_cons_zero, List.set_cons_succ, List.getElem?_cons_zero, List.getElem?_cons_succ, Option.join_some, Option.some.injEq, Option.map_some, exists_eq', exists_eq, exists_eq_left', exists_eq_left, exists_and_left, Option.bind_some, Option.bind_eq_bind, Option.pure_def, wipeR, restR, keepD, Tv.d.injEq, Tv.own.injEq, PyData.int.injEq, PyData.bool.injEq, PyData.tuple.injEq, PyData.list.injEq, PyData.str.injEq, List.cons.injEq, and_true, if_tt, if_ff, Option.bind_none, Option.getD_none, Option.getD_some, Int.sub_zero, Int.zero_add, and_assoc, true_and, exists_const, Nat.reduceAdd, Nat.reduceLT, Nat.reduceSub, Nat.zero_add]
      exact ⟨rfl, rfl⟩
  · rintro ρ2 rfl
    simp only [List.length_map, List.length_range, mat_frz, r_nil, r_set, r_unp, r_par, r_ix1, r_ix2, r_ixp, r_ixe, r_app, r_ext, r_expr, r_ret, r_retv, r_retN, r_if, r_for, r_while, r_pass, r_brk, r_cont, q_sim, q_bin, q_neg, q_cmp, q_isN, q_notN, q_chain, q_and, q_or, q_and1, q_and2, q_or1, q_or2, q_not, q_ite, q_tup, q_lst, q_idx, q_slice, q_rev, q_blt1, q_bltv, q_blt2, q_sortset, q_lrng, q_lc, q_pop, q_index, q_es0, q_es1, q_o0, q_o1, q_c0, q_c1, q_seq, q_rng, q_enum, q_zip, g_name, g_tup, g_t0, g_t1, o_add, o_sub, o_mul, o_fdiv, o_mod, o_pow, f_d, f_nil, c_lt, c_le, c_gt, c_ge, c_eq, c_ne, at0, at1, at2, ix0, ix1, ix2, v_var, v_int, v_str, v_bl, v_non, v_glob, v_add, v_sub, v_neg, v_idx, v_len, onV_d, onV_scr, onW_d, onW_scr, onW_own, simR, sv, frzT, E.sim?, E.var?, SE.var?, Tv.item, Tv.len, PyData.itemsOf, List.map_cons, List.map_nil, List.replicate, List.cons_append, List.nil_append, List.length_cons, List.length_nil, List.set_cons_zero, List.set_cons_succ, List.getElem?_cons_zero, List.getElem?_cons_succ, Option.join_some, Option.some.injEq, Option.map_some, exists_eq', exists_eq, exists_eq_left', exists_eq_left, exists_and_left, Option.bind_some, Option.bind_eq_bind, Option.pure_def, wipeR, restR, keepD, Tv.d.injEq, Tv.own.injEq, PyData.int.injEq, PyData.bool.injEq, PyData.tuple.injEq, PyData.list.injEq, PyData.str.injEq, List.cons.injEq, and_true, if_tt, if_ff, Option.bind_none, Option.getD_none, Option.getD_some, Int.sub_zero, Int.zero_add, and_assoc, true_and, exists_const, Nat.reduceAdd, Nat.reduceLT, Nat.reduceSub, Nat.zero_add]
    rw [r_cons]
    simp only [mat_frz, r_nil, r_set, r_unp, r_par, r_ix1, r_ix2, r_ixp, r_ixe, r_app, r_ext, r_expr, r_ret, r_retv, r_retN, r_if, r_for, r_while, r_pass, r_brk, r_cont, q_sim, q_bin, q_neg, q_cmp, q_isN, q_notN, q_chain, q_and, q_or, q_and1, q_and2, q_or1, q_or2, q_not, q_ite, q_tup, q_lst, q_idx, q_slice, q_rev, q_blt1, q_bltv, q_blt2, q_sortset, q_lrng, q_lc, q_pop, q_index, q_es0, q_es1, q_o0, q_o1, q_c0, q_c1, q_seq, q_rng, q_enum, q_zip, g_name, g_tup, g_t0, g_t1, o_add, o_sub, o_mul, o_fdiv, o_mod, o_pow, f_d, f_nil, c_lt, c_le, c_gt, c_ge, c_eq, c_ne, at0, at1, at2, ix0, ix1, ix2, v_var, v_int, v_str, v_bl, v_non, v_glob, v_add, v_sub, v_neg, v_idx, v_len, onV_d, onV_scr, onW_d, onW_scr, onW_own, simR, sv, frzT, E.sim?, E.var?, SE.var?, Tv.item, Tv.len, PyData.itemsOf, List.map_cons, List.map_nil, List.replicate, List.cons_append, List.nil_append, List.length_cons, List.length_nil, List.set_cons_zero, List.set_cons_succ, List.getElem?_cons_zero, List.getElem?_cons_succ, Option.join_some, Option.some.injEq, Option.map_some, exists_eq', exists_eq, exists_eq_left', exists_eq_left, exists_and_left, Option.bind_some, Option.bind_eq_bind, Option.pure_def, wipeR, restR, keepD, Tv.d.injEq, Tv.own.injEq, PyData.int.injEq, PyData.bool.injEq, PyData.tuple.injEq, PyData.list.injEq, PyData.str.injEq, List.cons.injEq, and_true, if_tt, if_ff, Option.bind_none, Option.getD_none, Option.getD_some, Int.sub_zero, Int.zero_add, and_assoc, true_and, exists_const, Nat.reduceAdd, Nat.reduceLT, Nat.reduceSub, Nat.zero_add]
    refine ⟨fun i acc ρ => acc = ((List.range i).map fun i => PyData.tuple (rowD pr.toNat (tabK (playsL ss) pk.toNat i))).map Tv.d ∧ ρ = [some (.d (planD pr pk ss)), some (.d (.list (matD pr.toNat (tabK (playsL ss) pk.toNat)))), none, none, none, none, none, none, none, none], ⟨rfl, rfl⟩, ?_, ?_⟩
    · rintro i y acc ρ2 hy ⟨rfl, rfl⟩
      have hi := (List.getElem?_eq_some_iff.mp hy).1
      unfold matD at hy hi
      rw [List.length_map, List.length_range] at hi
      rw [List.getElem?_map, List.getElem?_range hi] at hy
      cases hy
      simp only [List.length_map, List.length_range, b_tupleL, r_nil, r_cons, r_set, r_unp, r_par, r_ix1, r_ix2, r_ixp, r_ixe, r_app, r_ext, r_expr, r_ret, r_retv, r_retN, r_if, r_for, r_while, r_pass, r_brk, r_cont, q_sim, q_bin, q_neg, q_cmp, q_isN, q_notN, q_chain, q_and, q_or, q_and1, q_and2, q_or1, q_or2, q_not, q_ite, q_tup, q_lst, q_idx, q_slice, q_rev, q_blt1, q_bltv, q_blt2, q_sortset, q_lrng, q_lc, q_pop, q_index, q_es0, q_es1, q_o0, q_o1, q_c0, q_c1, q_seq, q_rng, q_enum, q_zip, g_name, g_tup, g_t0, g_t1, o_add, o_sub, o_mul, o_fdiv, o_mod, o_pow, f_d, f_nil, c_lt, c_le, c_gt, c_ge, c_eq, c_ne, at0, at1, at2, ix0, ix1, ix2, v_var, v_int, v_str, v_bl, v_non, v_glob, v_add, v_sub, v_neg, v_idx, v_len, onV_d, onV_scr, onW_d, onW_scr, onW_own, simR, sv, frzT, E.sim?, E.var?, SE.var?, Tv.item, Tv.len, PyData.itemsOf, List.map_cons, List.map_nil, List.replicate, List.cons_append, List.nil_append, List.length_cons, List.length_nil, List.set_cons_zero, List.set_cons_succ, List.getElem?_cons_zero, List.getElem?_cons_succ, Option.join_some, Option.some.injEq, Option.map_some, exists_eq', exists_eq, exists_eq_left', exists_eq_left, exists_and_left, Option.bind_some, Option.bind_eq_bind, Option.pure_def, wipeR, restR, keepD, Tv.d.injEq, Tv.own.injEq, PyData.int.injEq, PyData.bool.injEq, PyData.tuple.injEq, PyData.list.injEq, PyData.str.injEq, List.cons.injEq, and_true, if_tt, if_ff, Option.bind_none, Option.getD_none, Option.getD_some, Int.sub_zero, Int.zero_add, and_assoc, true_and, exists_const, Nat.reduceAdd, Nat.reduceLT, Nat.reduceSub, Nat.zero_add]
      refine ⟨fun _ => ⟨small64 (by omega), ?_⟩, fun z => (nomatch z)⟩
      rw [List.range_succ, List.map_append, List.map_append]
      rfl
    · rintro acc ρ2 ⟨rfl, rfl⟩
      have e : (matD pr.toNat (tabK (playsL ss) pk.toNat)).length = pr.toNat := by
        unfold matD
        rw [List.length_map, List.length_range]
      rw [e]
      simp only [b_tuple, r_nil, r_cons, r_set, r_unp, r_par, r_ix1, r_ix2, r_ixp, r_ixe, r_app, r_ext, r_expr, r_ret, r_retv, r_retN, r_if, r_for, r_while, r_pass, r_brk, r_cont, q_sim, q_bin, q_neg, q_cmp, q_isN, q_notN, q_chain, q_and, q_or, q_and1, q_and2, q_or1, q_or2, q_not, q_ite, q_tup, q_lst, q_idx, q_slice, q_rev, q_blt1, q_bltv, q_blt2, q_sortset, q_lrng, q_lc, q_pop, q_index, q_es0, q_es1, q_o0, q_o1, q_c0, q_c1, q_seq, q_rng, q_enum, q_zip, g_name, g_tup, g_t0, g_t1, o_add, o_sub, o_mul, o_fdiv, o_mod, o_pow, f_d, f_nil, c_lt, c_le, c_gt, c_ge, c_eq, c_ne, at0, at1, at2, ix0, ix1, ix2, v_var, v_int, v_str, v_bl, v_non, v_glob, v_add, v_sub, v_neg, v_idx, v_len, onV_d, onV_scr, onW_d, onW_scr, onW_own, simR, sv, frzT, E.sim?, E.var?, SE.var?, Tv.item, Tv.len, PyData.itemsOf, List.map_cons, List.map_nil, List.replicate, List.cons_append, List.nil_append, List.length_cons, List.length_nil, List.set_cons_zero, List.set_cons_succ, List.getElem?_cons_zero, List.getElem?_cons_succ, Option.join_some, Option.some.injEq, Option.map_some, exists_eq', exists_eq, exists_eq_left', exists_eq_left, exists_and_left, Option.bind_some, Option.bind_eq_bind, Option.pure_def, wipeR, restR, keepD, Tv.d.injEq, Tv.own.injEq, PyData.int.injEq, PyData.bool.injEq, PyData.tuple.injEq, PyData.list.injEq, PyData.str.injEq, List.cons.injEq, and_true, if_tt, if_ff, Option.bind_none, Option.getD_none, Option.getD_some, Int.sub_zero, Int.zero_add, and_assoc, true_and, exists_const, Nat.reduceAdd, Nat.reduceLT, Nat.reduceSub, Nat.zero_add]
      exact hq _
def feTable : FE := ⟨["plan"], [["plan"]], none, spTable⟩
theorem tab_at {P : Nat} (f : TF) {i : Nat} (h : i < P) : atI ((List.range P).map fun i => PyData.tuple (rowD P (f i))) (i : Nat) = some (.tuple (rowD P (f i))) := atI_nat (by
  rw [List.getElem?_map, List.getElem?_range h]
  rfl)
theorem rowd_at {P : Nat} (g : Nat → Int) {j : Nat} (h : j < P) : atI (rowD P g) (j : Nat) = some (.int (g j)) := atI_nat (by
  unfold rowD
  rw [List.getElem?_map, List.getElem?_range h]
  rfl)
def bCompared : SL := (.cons (.ret (.idx (.idx (.call "table" (.cons (.sim (.var 0)) .nil)) (.sim (.var 1))) (.sim (.var 2))))
  .nil)
def spCompared : FS := fun xs Q => ∃ (pr pk : Int) (ss : List PyData) (i j : Nat), xs = [.d (planD pr pk ss), .d (.int (i : Nat)), .d (.int (j : Nat))] ∧ PlanOk pr pk ss ∧ i < pr.toNat ∧ j < pr.toNat ∧ ∀ rest, Q (.d (.int (tabK (playsL ss) pk.toNat i j))) rest
theorem ok_compared {Γ : Gam} {Φ : Phi} (hT : Φ "table" = some feTable) : ∀ xs Q, spCompared xs Q → fsOf Γ Φ 3 3 bCompared xs Q := by
  rintro xs Q ⟨pr, pk, ss, i, j, rfl, hP, hi, hj, hq⟩
  refine ⟨rfl, ?_⟩
  rw [bCompared, r_cons]
  simp only [q_call hT rfl, args1, feTable, r_nil, r_set, r_unp, r_par, r_ix1, r_ix2, r_ixp, r_ixe, r_app, r_ext, r_expr, r_ret, r_retv, r_retN, r_if, r_for, r_while, r_pass, r_brk, r_cont, q_sim, q_bin, q_neg, q_cmp, q_isN, q_notN, q_chain, q_and, q_or, q_and1, q_and2, q_or1, q_or2, q_not, q_ite, q_tup, q_lst, q_idx, q_slice, q_rev, q_blt1, q_bltv, q_blt2, q_sortset, q_lrng, q_lc, q_pop, q_index, q_es0, q_es1, q_o0, q_o1, q_c0, q_c1, q_seq, q_rng, q_enum, q_zip, g_name, g_tup, g_t0, g_t1, o_add, o_sub, o_mul, o_fdiv, o_mod, o_pow, f_d, f_nil, c_lt, c_le, c_gt, c_ge, c_eq, c_ne, at0, at1, at2, ix0, ix1, ix2, v_var, v_int, v_str, v_bl, v_non, v_glob, v_add, v_sub, v_neg, v_idx, v_len, onV_d, onV_scr, onW_d, onW_scr, onW_own, simR, sv, frzT, E.sim?, E.var?, SE.var?, Tv.item, Tv.len, PyData.itemsOf, List.map_cons, List.map_nil, List.replicate, List.cons_append, List.nil_append, List.length_cons, List.length_nil, List.set_cons_zero, List.set_cons_succ, List.getElem?_cons_zero, List.getElem?_cons_succ, Option.join_some, Option.some.injEq, Option.map_some, exists_eq', exists_eq, exists_eq_left', exists_eq_left, exists_and_left, Option.bind_some, Option.bind_eq_bind, Option.pure_def, wipeR, restR, keepD, Tv.d.injEq, Tv.own.injEq, PyData.int.injEq, PyData.bool.injEq, PyData.tuple.injEq, PyData.list.injEq, PyData.str.injEq, List.cons.injEq, and_true, if_tt, if_ff, Option.bind_none, Option.getD_none, Option.getD_some, Int.sub_zero, Int.zero_add, and_assoc, true_and, exists_const, Nat.reduceAdd, Nat.reduceLT, Nat.reduceSub, Nat.zero_add]
  refine ⟨pr, pk, ss, rfl, hP, fun rest => ?_⟩
  simp only [tabD, r_nil, r_set, r_unp, r_par, r_ix1, r_ix2, r_ixp, r_ixe, r_app, r_ext, r_expr, r_ret, r_retv, r_retN, r_if, r_for, r_while, r_pass, r_brk, r_cont, q_sim, q_bin, q_neg, q_cmp, q_isN, q_notN, q_chain, q_and, q_or, q_and1, q_and2, q_or1, q_or2, q_not, q_ite, q_tup, q_lst, q_idx, q_slice, q_rev, q_blt1, q_bltv, q_blt2, q_sortset, q_lrng, q_lc, q_pop, q_index, q_es0, q_es1, q_o0, q_o1, q_c0, q_c1, q_seq, q_rng, q_enum, q_zip, g_name, g_tup, g_t0, g_t1, o_add, o_sub, o_mul, o_fdiv, o_mod, o_pow, f_d, f_nil, c_lt, c_le, c_gt, c_ge, c_eq, c_ne, at0, at1, at2, ix0, ix1, ix2, v_var, v_int, v_str, v_bl, v_non, v_glob, v_add, v_sub, v_neg, v_idx, v_len, onV_d, onV_scr, onW_d, onW_scr, onW_own, simR, sv, frzT, E.sim?, E.var?, SE.var?, Tv.item, Tv.len, PyData.itemsOf, List.map_cons, List.map_nil, List.replicate, List.cons_append, List.nil_append, List.length_cons, List.length_nil, List.set_cons_zero, List.set_cons_succ, List.getElem?_cons_zero, List.getElem?_cons_succ, Option.join_some, Option.some.injEq, Option.map_some, exists_eq', exists_eq, exists_eq_left', exists_eq_left, exists_and_left, Option.bind_some, Option.bind_eq_bind, Option.pure_def, wipeR, restR, keepD, Tv.d.injEq, Tv.own.injEq, PyData.int.injEq, PyData.bool.injEq, PyData.tuple.injEq, PyData.list.injEq, PyData.str.injEq, List.cons.injEq, and_true, if_tt, if_ff, Option.bind_none, Option.getD_none, Option.getD_some, Int.sub_zero, Int.zero_add, and_assoc, true_and, exists_const, Nat.reduceAdd, Nat.reduceLT, Nat.reduceSub, Nat.zero_add]
  rw [tab_at _ hi]
  refine ⟨_, rfl, ?_⟩
  show ∃ x, Option.map Tv.d (atI (rowD _ _) _) = _ ∧ _
  rw [rowd_at _ hj]
  exact ⟨_, rfl, hq _⟩
def bWeight : SL := (.cons (.ret (.bltv .sum (.idx (.call "table" (.cons (.sim (.var 0)) .nil)) (.sim (.var 1)))))
  .nil)
def rowS (P : Nat) (g : Nat → Int) : Int := ((List.range P).map g).sum
def spWeight : FS := fun xs Q => ∃ (pr pk : Int) (ss : List PyData) (i : Nat), xs = [.d (planD pr pk ss), .d (.int (i : Nat))] ∧ PlanOk pr pk ss ∧ i < pr.toNat ∧ ∀ rest, Q (.d (.int (rowS pr.toNat (tabK (playsL ss) pk.toNat i)))) rest
theorem ints_row (P : Nat) (g : Nat → Int) : intsOf (rowD P g) = some ((List.range P).map g) := by
  have : rowD P g = ((List.range P).map g).map PyData.int := by
    unfold rowD
    rw [List.map_map]
    rfl
  rw [this]
  exact intsOf_map _
theorem ok_weight {Γ : Gam} {Φ : Phi} (hT : Φ "table" = some feTable) : ∀ xs Q, spWeight xs Q → fsOf Γ Φ 2 2 bWeight xs Q := by
  rintro xs Q ⟨pr, pk, ss, i, rfl, hP, hi, hq⟩
  refine ⟨rfl, ?_⟩
  rw [bWeight, r_cons]
  simp only [q_call hT rfl, args1, feTable, r_nil, r_set, r_unp, r_par, r_ix1, r_ix2, r_ixp, r_ixe, r_app, r_ext, r_expr, r_ret, r_retv, r_retN, r_if, r_for, r_while, r_pass, r_brk, r_cont, q_sim, q_bin, q_neg, q_cmp, q_isN, q_notN, q_chain, q_and, q_or, q_and1, q_and2, q_or1, q_or2, q_not, q_ite, q_tup, q_lst, q_idx, q_slice, q_rev, q_blt1, q_bltv, q_blt2, q_sortset, q_lrng, q_lc, q_pop, q_index, q_es0, q_es1, q_o0, q_o1, q_c0, q_c1, q_seq, q_rng, q_enum, q_zip, g_name, g_tup, g_t0, g_t1, o_add, o_sub, o_mul, o_fdiv, o_mod, o_pow, f_d, f_nil, c_lt, c_le, c_gt, c_ge, c_eq, c_ne, at0, at1, at2, ix0, ix1, ix2, v_var, v_int, v_str, v_bl, v_non, v_glob, v_add, v_sub, v_neg, v_idx, v_len, onV_d, onV_scr, onW_d, onW_scr, onW_own, simR, sv, frzT, E.sim?, E.var?, SE.var?, Tv.item, Tv.len, PyData.itemsOf, List.map_cons, List.map_nil, List.replicate, List.cons_append, List.nil_append, List.length_cons, List.length_nil, List.set_cons_zero, List.set_cons_succ, List.getElem?_cons_zero, List.getElem?_cons_succ, Option.join_some, Option.some.injEq, Option.map_some, exists_eq', exists_eq, exists_eq_left', exists_eq_left, exists_and_left, Option.bind_some, Option.bind_eq_bind, Option.pure_def, wipeR, restR, keepD, Tv.d.injEq, Tv.own.injEq, PyData.int.injEq, PyData.bool.injEq, PyData.tuple.injEq, PyData.list.injEq, PyData.str.injEq, List.cons.injEq, and_true, if_tt, if_ff, Option.bind_none, Option.getD_none, Option.getD_some, Int.sub_zero, Int.zero_add, and_assoc, true_and, exists_const, Nat.reduceAdd, Nat.reduceLT, Nat.reduceSub, Nat.zero_add]
  refine ⟨pr, pk, ss, rfl, hP, fun rest => ?_⟩
  simp only [tabD, r_nil, r_set, r_unp, r_par, r_ix1, r_ix2, r_ixp, r_ixe, r_app, r_ext, r_expr, r_ret, r_retv, r_retN, r_if, r_for, r_while, r_pass, r_brk, r_cont, q_sim, q_bin, q_neg, q_cmp, q_isN, q_notN, q_chain, q_and, q_or, q_and1, q_and2, q_or1, q_or2, q_not, q_ite, q_tup, q_lst, q_idx, q_slice, q_rev, q_blt1, q_bltv, q_blt2, q_sortset, q_lrng, q_lc, q_pop, q_index, q_es0, q_es1, q_o0, q_o1, q_c0, q_c1, q_seq, q_rng, q_enum, q_zip, g_name, g_tup, g_t0, g_t1, o_add, o_sub, o_mul, o_fdiv, o_mod, o_pow, f_d, f_nil, c_lt, c_le, c_gt, c_ge, c_eq, c_ne, at0, at1, at2, ix0, ix1, ix2, v_var, v_int, v_str, v_bl, v_non, v_glob, v_add, v_sub, v_neg, v_idx, v_len, onV_d, onV_scr, onW_d, onW_scr, onW_own, simR, sv, frzT, E.sim?, E.var?, SE.var?, Tv.item, Tv.len, PyData.itemsOf, List.map_cons, List.map_nil, List.replicate, List.cons_append, List.nil_append, List.length_cons, List.length_nil, List.set_cons_zero, List.set_cons_succ, List.getElem?_cons_zero, List.getElem?_cons_succ, Option.join_some, Option.some.injEq, Option.map_some, exists_eq', exists_eq, exists_eq_left', exists_eq_left, exists_and_left, Option.bind_some, Option.bind_eq_bind, Option.pure_def, wipeR, restR, keepD, Tv.d.injEq, Tv.own.injEq, PyData.int.injEq, PyData.bool.injEq, PyData.tuple.injEq, PyData.list.injEq, PyData.str.injEq, List.cons.injEq, and_true, if_tt, if_ff, Option.bind_none, Option.getD_none, Option.getD_some, Int.sub_zero, Int.zero_add, and_assoc, true_and, exists_const, Nat.reduceAdd, Nat.reduceLT, Nat.reduceSub, Nat.zero_add]
  rw [tab_at _ hi]
  refine ⟨_, rfl, _, _, _, _, rfl, rfl, rfl, ints_row _ _, ?_⟩
  exact hq _
end Tr
set_option Elab.async false
set_option linter.all false
set_option maxRecDepth 100000
set_option maxHeartbeats 4000000
set_option exponentiation.threshold 3000
namespace Tr
open PySem PySem.Spec PyProof.Rows L2
/-! the law's own table -/
def bPackT2 : SL := (.cons (.ite (.and_ (.cons (.cmp .ne (.sim (.var 10)) (.lst .nil)) (.cons (.cmp .ne (.sim (.var 11)) (.lst .nil)) (.cons (.cmp .eq (.sim (.var 10)) (.sim (.var 11))) .nil))))
  (.cons (.ix2 3 (.var 4) (.var 5) (.bin .sub (.sim (.len (.var 2))) (.sim (.int 1))))
  .nil)
  (.cons (.ite (.and_ (.cons (.cmp .ne (.sim (.var 10)) (.lst .nil)) (.cons (.cmp .ne (.sim (.var 11)) (.lst .nil)) .nil)))
  (.cons (.ix2 3 (.var 4) (.var 5) (.ite (.cmp .eq (.index (.sim (.idx (.var 10) (.int 0))) (.sim (.var 4))) (.index (.sim (.idx (.var 11) (.int 0))) (.sim (.var 5)))) (.sim (.int 1)) (.sim (.neg (.int 1)))))
  .nil)
  .nil)
  .nil))
  .nil)
def bPackT1 : SL := (.cons (.set 10 (.lc (.sim (.var 12)) (.name 12) (.seq (.sim (.var 2))) (.som (.cmp .inn (.sim (.var 4)) (.sim (.var 12)))) [12]))
  (.cons (.set 11 (.lc (.sim (.var 12)) (.name 12) (.seq (.sim (.var 2))) (.som (.cmp .inn (.sim (.var 5)) (.sim (.var 12)))) [12]))
  bPackT2))
def bPackTable : SL := (.cons (.set 2 (.lc (.tup (.cons (.sim (.var 8)) (.cons (.sim (.var 9)) .nil))) (.tup (.cons (.name 7) (.cons (.name 8) (.cons (.name 9) .nil)))) (.seq (.call "_law_plays" (.cons (.sim (.var 0)) .nil))) (.som (.cmp .eq (.sim (.var 7)) (.sim (.var 1)))) [7, 8, 9]))
  (.cons (.set 3 (.lc (.bin .mul (.lst (.cons (.sim (.int 0)) .nil)) (.sim (.idx (.var 0) (.int 0)))) (.name 6) (.rng .non (.sim (.idx (.var 0) (.int 0)))) .non [6]))
  (.cons (.for_ (.name 4) (.rng .non (.sim (.idx (.var 0) (.int 0))))
  (.cons (.for_ (.name 5) (.rng .non (.sim (.idx (.var 0) (.int 0))))
  (.cons (.ite (.cmp .ne (.sim (.var 4)) (.sim (.var 5)))
  bPackT1
  .nil)
  .nil)
  [5, 10, 11])
  .nil)
  [4, 5, 10, 11])
  (.cons (.retv 3)
  .nil))))
def spPackTable : FS := fun xs Q => ∃ (pr pk : Int) (ss : List PyData) (p : Nat), xs = [.d (planD pr pk ss), .d (.int (p : Nat))] ∧ PlanOk pr pk ss ∧ ∀ rest, Q (.own (matL pr.toNat (cell (ownP (playsL ss) p)))) rest
theorem has_in (a : Nat) (p : Nat × Nat) : ([PyData.int (p.1 : Nat), PyData.int (p.2 : Nat)].any fun y => PyData.eqv y (.int (a : Nat))) = has a p := by
  show (((p.1 : Nat) : Int) == (a : Nat) || (((p.2 : Nat) : Int) == (a : Nat) || false)) = (a == p.1 || a == p.2)
  rw [Bool.or_false]
  have e1 : (((p.1 : Nat) : Int) == (a : Nat)) = (a == p.1) := by
    rw [Bool.eq_iff_iff, beq_iff_eq, beq_iff_eq]
    omega
  have e2 : (((p.2 : Nat) : Int) == (a : Nat)) = (a == p.2) := by
    rw [Bool.eq_iff_iff, beq_iff_eq, beq_iff_eq]
    omega
  rw [e1, e2]
theorem shal_pairs (n : Nat) (o : Prs) : (o.map pairD).all (shal (n + 1)) = true := List.all_eq_true.mpr fun x hx => by
  obtain ⟨p, _, rfl⟩ := List.mem_map.mp hx
  show [PyData.int _, PyData.int _].all (shal n) = true
  cases n <;> rfl
theorem eqv_pair (p q : Nat × Nat) : PyData.eqv (pairD p) (pairD q) = (p == q) := by
  have : PyData.eqv (pairD p) (pairD q) = ((((p.1 : Nat) : Int) == (q.1 : Nat)) && ((((p.2 : Nat) : Int) == (q.2 : Nat)) && true)) := rfl
  rw [this, Bool.and_true, Bool.eq_iff_iff, Bool.and_eq_true, beq_iff_eq, beq_iff_eq, beq_iff_eq]
  constructor
  · rintro ⟨h1, h2⟩
    exact Prod.ext (by omega) (by omega)
  · rintro rfl
    exact ⟨rfl, rfl⟩
theorem eqv_pairs : ∀ o u : Prs, PyData.eqvAll (o.map pairD) (u.map pairD) = (o == u)
  | [], [] => rfl
  | [], _ :: _ => rfl
  | _ :: _, [] => rfl
  | p :: o, q :: u => by
    have : PyData.eqvAll ((p :: o).map pairD) ((q :: u).map pairD) = (PyData.eqv (pairD p) (pairD q) && PyData.eqvAll (o.map pairD) (u.map pairD)) := rfl
    rw [this, eqv_pair, eqv_pairs o u]
    rfl
theorem c_eqPrs {o u : Prs} {R : Bool → Prop} (h : R (o == u)) : cmpO .eq (.d (.list (o.map pairD))) (.d (.list (u.map pairD))) R :=
  ⟨_, _, rfl, rfl, by show (o.map pairD).all (shal 29) = true; exact shal_pairs 28 o, by show (u.map pairD).all (shal 29) = true; exact shal_pairs 28 u, by
    show R (PyData.eqv (.list (o.map pairD)) (.list (u.map pairD)))
    have : PyData.eqv (.list (o.map pairD)) (.list (u.map pairD)) = PyData.eqvAll (o.map pairD) (u.map pairD) := rfl
    rw [this, eqv_pairs]
    exact h⟩
theorem c_neNilD {ds : List PyData} {R : Bool → Prop} (hs : ds.all (shal 29) = true) (h : R (!ds.isEmpty)) : cmpO .ne (.d (.list ds)) (.own []) R :=
  ⟨.list ds, .list [], rfl, rfl, by simpa [shal] using hs, rfl, by
    show R (!PyData.eqv (.list ds) (.list []))
    rw [eqv_nil]
    exact h⟩
theorem c_eqPrsO {o u : Prs} {R : Bool → Prop} (h : R (o == u)) : cmpO .eq (.own ((o.map pairD).map Tv.d)) (.own ((u.map pairD).map Tv.d)) R :=
  ⟨_, _, f_own, f_own, by show (o.map pairD).all (shal 29) = true; exact shal_pairs 28 o, by show (u.map pairD).all (shal 29) = true; exact shal_pairs 28 u, by
    show R (PyData.eqv (.list (o.map pairD)) (.list (u.map pairD)))
    have : PyData.eqv (.list (o.map pairD)) (.list (u.map pairD)) = PyData.eqvAll (o.map pairD) (u.map pairD) := rfl
    rw [this, eqv_pairs]
    exact h⟩
theorem idx_side (a : Nat) (p : Nat × Nat) (h : has a p = true) : ((a : Nat) : Int) ∈ [((p.1 : Nat) : Int), ((p.2 : Nat) : Int)] ∧ ([((p.1 : Nat) : Int), ((p.2 : Nat) : Int)].idxOf ((a : Nat) : Int)) = sideOf a p := by
  unfold has at h
  rw [Bool.or_eq_true, beq_iff_eq, beq_iff_eq] at h
  unfold sideOf
  rw [List.idxOf_cons, List.idxOf_cons]
  by_cases h1 : p.1 = a
  · subst h1
    rw [if_pos rfl]
    simp
  · rw [if_neg h1]
    have h2 : p.2 = a := by omega
    subst h2
    have e1 : (((p.1 : Nat) : Int) == ((p.2 : Nat) : Int)) = false := beq_eq_false_iff_ne.mpr (by omega)
    rw [e1]
    simp
section
variable {Γ : Gam} {Φ : Phi} {D : DE} {P : Nat} {own : Prs} {x0 x1 : Option Tv}
theorem ok_packT2 {f : TF} {i j : Nat} (hP : P ≤ 10) (hown : PrsIn P own) (hi : i < P) (hj : j < P) (hij : i ≠ j) (h0 : f i j = 0)
    (hD : ∀ x10 x11 f', f' = setF f i j (lawCell own i j) → D.nx [x0, x1, some (.d (.list (own.map pairD))), some (.own (matL P f')), some (.d (.int (i : Nat))), some (.d (.int (j : Nat))), none, none, none, none, some x10, some x11, none]) :
    wSL Γ Φ bPackT2 D [x0, x1, some (.d (.list (own.map pairD))), some (.own (matL P f)), some (.d (.int (i : Nat))), some (.d (.int (j : Nat))), none, none, none, none, some (.own (((own.filter (has i)).map pairD).map .d)), some (.own (((own.filter (has j)).map pairD).map .d)), none] := by
  have hsame : lawCell own i j = 0 → f = setF f i j (lawCell own i j) := fun h => by
    rw [h]
    funext a b
    unfold setF
    split
    · rename_i z
      rw [z.1, z.2, h0]
    · rfl
  have hasm : ∀ a, ∀ p ∈ own.filter (has a), has a p = true := fun a p hp => (List.mem_filter.mp hp).2
  have h1 := hasm i
  have h2 := hasm j
  have hlc : lawCell own i j = lawPick own.length i j (own.filter (has i)) (own.filter (has j)) := by
    unfold lawCell
    rw [if_neg hij]
  generalize own.filter (has i) = A at h1 hlc ⊢
  generalize own.filter (has j) = B at h2 hlc ⊢
  rw [bPackT2, r_cons]
  simp only [r_nil, r_set, r_unp, r_par, r_ix1, r_ix2, r_ixp, r_ixe, r_app, r_ext, r_expr, r_ret, r_retv, r_retN, r_if, r_for, r_while, r_pass, r_brk, r_cont, q_sim, q_bin, q_neg, q_cmp, q_isN, q_notN, q_chain, q_and, q_or, q_and1, q_and2, q_or1, q_or2, q_not, q_ite, q_tup, q_lst, q_idx, q_slice, q_rev, q_blt1, q_bltv, q_blt2, q_sortset, q_lrng, q_lc, q_pop, q_index, q_es0, q_es1, q_o0, q_o1, q_c0, q_c1, q_seq, q_rng, q_enum, q_zip, g_name, g_tup, g_t0, g_t1, o_add, o_sub, o_mul, o_fdiv, o_mod, o_pow, f_d, f_nil, c_lt, c_le, c_gt, c_ge, c_eq, c_ne, at0, at1, at2, ix0, ix1, ix2, v_var, v_int, v_str, v_bl, v_non, v_glob, v_add, v_sub, v_neg, v_idx, v_len, onV_d, onV_scr, onW_d, onW_scr, onW_own, simR, sv, frzT, E.sim?, E.var?, SE.var?, Tv.item, Tv.len, PyData.itemsOf, List.map_cons, List.map_nil, List.replicate, List.cons_append, List.nil_append, List.length_cons, List.length_nil, List.set_cons_zero, List.set_cons_succ, List.getElem?_cons_zero, List.getElem?_cons_succ, Option.join_some, Option.some.injEq, Option.map_some, exists_eq', exists_eq, exists_eq_left', exists_eq_left, exists_and_left, Option.bind_some, Option.bind_eq_bind, Option.pure_def, wipeR, restR, keepD, Tv.d.injEq, Tv.own.injEq, PyData.int.injEq, PyData.bool.injEq, PyData.tuple.injEq, PyData.list.injEq, PyData.str.injEq, List.cons.injEq, and_true, if_tt, if_ff, Option.bind_none, Option.getD_none, Option.getD_some, Int.sub_zero, Int.zero_add, and_assoc, true_and, exists_const, Nat.reduceAdd, Nat.reduceLT, Nat.reduceSub, Nat.zero_add]
  cases A with
  | nil =>
    refine c_neNil rfl ?_
    simp only [List.map_nil, List.isEmpty_nil, Bool.not_true, r_nil, r_set, r_unp, r_par, r_ix1, r_ix2, r_ixp, r_ixe, r_app, r_ext, r_expr, r_ret, r_retv, r_retN, r_if, r_for, r_while, r_pass, r_brk, r_cont, q_sim, q_bin, q_neg, q_cmp, q_isN, q_notN, q_chain, q_and, q_or, q_and1, q_and2, q_or1, q_or2, q_not, q_ite, q_tup, q_lst, q_idx, q_slice, q_rev, q_blt1, q_bltv, q_blt2, q_sortset, q_lrng, q_lc, q_pop, q_index, q_es0, q_es1, q_o0, q_o1, q_c0, q_c1, q_seq, q_rng, q_enum, q_zip, g_name, g_tup, g_t0, g_t1, o_add, o_sub, o_mul, o_fdiv, o_mod, o_pow, f_d, f_nil, c_lt, c_le, c_gt, c_ge, c_eq, c_ne, at0, at1, at2, ix0, ix1, ix2, v_var, v_int, v_str, v_bl, v_non, v_glob, v_add, v_sub, v_neg, v_idx, v_len, onV_d, onV_scr, onW_d, onW_scr, onW_own, simR, sv, frzT, E.sim?, E.var?, SE.var?, Tv.item, Tv.len, PyData.itemsOf, List.map_cons, List.map_nil, List.replicate, List.cons_append, List.nil_append, List.length_cons, List.length_nil, List.set_cons_zero, List.set_cons_succ, List.getElem?_cons_zero, List.getElem?_cons_succ, Option.join_some, Option.some.injEq, Option.map_some, exists_eq', exists_eq, exists_eq_left', exists_eq_left, exists_and_left, Option.bind_some, Option.bind_eq_bind, Option.pure_def, wipeR, restR, keepD, Tv.d.injEq, Tv.own.injEq, PyData.int.injEq, PyData.bool.injEq, PyData.tuple.injEq, PyData.list.injEq, PyData.str.injEq, List.cons.injEq, and_true, if_tt, if_ff, Option.bind_none, Option.getD_none, Option.getD_some, Int.sub_zero, Int.zero_add, and_assoc, true_and, exists_const, Nat.reduceAdd, Nat.reduceLT, Nat.reduceSub, Nat.zero_add]
    rw [r_cons]
    simp only [r_nil, r_set, r_unp, r_par, r_ix1, r_ix2, r_ixp, r_ixe, r_app, r_ext, r_expr, r_ret, r_retv, r_retN, r_if, r_for, r_while, r_pass, r_brk, r_cont, q_sim, q_bin, q_neg, q_cmp, q_isN, q_notN, q_chain, q_and, q_or, q_and1, q_and2, q_or1, q_or2, q_not, q_ite, q_tup, q_lst, q_idx, q_slice, q_rev, q_blt1, q_bltv, q_blt2, q_sortset, q_lrng, q_lc, q_pop, q_index, q_es0, q_es1, q_o0, q_o1, q_c0, q_c1, q_seq, q_rng, q_enum, q_zip, g_name, g_tup, g_t0, g_t1, o_add, o_sub, o_mul, o_fdiv, o_mod, o_pow, f_d, f_nil, c_lt, c_le, c_gt, c_ge, c_eq, c_ne, at0, at1, at2, ix0, ix1, ix2, v_var, v_int, v_str, v_bl, v_non, v_glob, v_add, v_sub, v_neg, v_idx, v_len, onV_d, onV_scr, onW_d, onW_scr, onW_own, simR, sv, frzT, E.sim?, E.var?, SE.var?, Tv.item, Tv.len, PyData.itemsOf, List.map_cons, List.map_nil, List.replicate, List.cons_append, List.nil_append, List.length_cons, List.length_nil, List.set_cons_zero, List.set_cons_succ, List.getElem?_cons_zero, List.getElem?_cons_succ, Option.join_some, Option.some.injEq, Option.map_some, exists_eq', exists_eq, exists_eq_left', exists_eq_left, exists_and_left, Option.bind_some, Option.bind_eq_bind, Option.pure_def, wipeR, restR, keepD, Tv.d.injEq, Tv.own.injEq, PyData.int.injEq, PyData.bool.injEq, PyData.tuple.injEq, PyData.list.injEq, PyData.str.injEq, List.cons.injEq, and_true, if_tt, if_ff, Option.bind_none, Option.getD_none, Option.getD_some, Int.sub_zero, Int.zero_add, and_assoc, true_and, exists_const, Nat.reduceAdd, Nat.reduceLT, Nat.reduceSub, Nat.zero_add]
    refine c_neNil (ds := []) rfl ?_
    simp only [List.map_nil, List.isEmpty_nil, Bool.not_true, r_nil, r_cons, r_set, r_unp, r_par, r_ix1, r_ix2, r_ixp, r_ixe, r_app, r_ext, r_expr, r_ret, r_retv, r_retN, r_if, r_for, r_while, r_pass, r_brk, r_cont, q_sim, q_bin, q_neg, q_cmp, q_isN, q_notN, q_chain, q_and, q_or, q_and1, q_and2, q_or1, q_or2, q_not, q_ite, q_tup, q_lst, q_idx, q_slice, q_rev, q_blt1, q_bltv, q_blt2, q_sortset, q_lrng, q_lc, q_pop, q_index, q_es0, q_es1, q_o0, q_o1, q_c0, q_c1, q_seq, q_rng, q_enum, q_zip, g_name, g_tup, g_t0, g_t1, o_add, o_sub, o_mul, o_fdiv, o_mod, o_pow, f_d, f_nil, c_lt, c_le, c_gt, c_ge, c_eq, c_ne, at0, at1, at2, ix0, ix1, ix2, v_var, v_int, v_str, v_bl, v_non, v_glob, v_add, v_sub, v_neg, v_idx, v_len, onV_d, onV_scr, onW_d, onW_scr, onW_own, simR, sv, frzT, E.sim?, E.var?, SE.var?, Tv.item, Tv.len, PyData.itemsOf, List.map_cons, List.map_nil, List.replicate, List.cons_append, List.nil_append, List.length_cons, List.length_nil, List.set_cons_zero, List.set_cons_succ, List.getElem?_cons_zero, List.getElem?_cons_succ, Option.join_some, Option.some.injEq, Option.map_some, exists_eq', exists_eq, exists_eq_left', exists_eq_left, exists_and_left, Option.bind_some, Option.bind_eq_bind, Option.pure_def, wipeR, restR, keepD, Tv.d.injEq, Tv.own.injEq, PyData.int.injEq, PyData.bool.injEq, PyData.tuple.injEq, PyData.list.injEq, PyData.str.injEq, List.cons.injEq, and_true, if_tt, if_ff, Option.bind_none, Option.getD_none, Option.getD_some, Int.sub_zero, Int.zero_add, and_assoc, true_and, exists_const, Nat.reduceAdd, Nat.reduceLT, Nat.reduceSub, Nat.zero_add]
    exact hD _ _ _ (hsame hlc)
  | cons p A =>
    have hsp : ((p :: A).map pairD).all (shal 29) = true := shal_pairs 28 _
    refine c_neNil hsp ?_
    simp only [List.map_cons, List.isEmpty_cons, Bool.not_false, r_nil, r_set, r_unp, r_par, r_ix1, r_ix2, r_ixp, r_ixe, r_app, r_ext, r_expr, r_ret, r_retv, r_retN, r_if, r_for, r_while, r_pass, r_brk, r_cont, q_sim, q_bin, q_neg, q_cmp, q_isN, q_notN, q_chain, q_and, q_or, q_and1, q_and2, q_or1, q_or2, q_not, q_ite, q_tup, q_lst, q_idx, q_slice, q_rev, q_blt1, q_bltv, q_blt2, q_sortset, q_lrng, q_lc, q_pop, q_index, q_es0, q_es1, q_o0, q_o1, q_c0, q_c1, q_seq, q_rng, q_enum, q_zip, g_name, g_tup, g_t0, g_t1, o_add, o_sub, o_mul, o_fdiv, o_mod, o_pow, f_d, f_nil, c_lt, c_le, c_gt, c_ge, c_eq, c_ne, at0, at1, at2, ix0, ix1, ix2, v_var, v_int, v_str, v_bl, v_non, v_glob, v_add, v_sub, v_neg, v_idx, v_len, onV_d, onV_scr, onW_d, onW_scr, onW_own, simR, sv, frzT, E.sim?, E.var?, SE.var?, Tv.item, Tv.len, PyData.itemsOf, List.map_cons, List.map_nil, List.replicate, List.cons_append, List.nil_append, List.length_cons, List.length_nil, List.set_cons_zero, List.set_cons_succ, List.getElem?_cons_zero, List.getElem?_cons_succ, Option.join_some, Option.some.injEq, Option.map_some, exists_eq', exists_eq, exists_eq_left', exists_eq_left, exists_and_left, Option.bind_some, Option.bind_eq_bind, Option.pure_def, wipeR, restR, keepD, Tv.d.injEq, Tv.own.injEq, PyData.int.injEq, PyData.bool.injEq, PyData.tuple.injEq, PyData.list.injEq, PyData.str.injEq, List.cons.injEq, and_true, if_tt, if_ff, Option.bind_none, Option.getD_none, Option.getD_some, Int.sub_zero, Int.zero_add, and_assoc, true_and, exists_const, Nat.reduceAdd, Nat.reduceLT, Nat.reduceSub, Nat.zero_add]
    cases B with
    | nil =>
      refine c_neNil (ds := []) rfl ?_
      simp only [List.map_nil, List.isEmpty_nil, Bool.not_true, r_nil, r_set, r_unp, r_par, r_ix1, r_ix2, r_ixp, r_ixe, r_app, r_ext, r_expr, r_ret, r_retv, r_retN, r_if, r_for, r_while, r_pass, r_brk, r_cont, q_sim, q_bin, q_neg, q_cmp, q_isN, q_notN, q_chain, q_and, q_or, q_and1, q_and2, q_or1, q_or2, q_not, q_ite, q_tup, q_lst, q_idx, q_slice, q_rev, q_blt1, q_bltv, q_blt2, q_sortset, q_lrng, q_lc, q_pop, q_index, q_es0, q_es1, q_o0, q_o1, q_c0, q_c1, q_seq, q_rng, q_enum, q_zip, g_name, g_tup, g_t0, g_t1, o_add, o_sub, o_mul, o_fdiv, o_mod, o_pow, f_d, f_nil, c_lt, c_le, c_gt, c_ge, c_eq, c_ne, at0, at1, at2, ix0, ix1, ix2, v_var, v_int, v_str, v_bl, v_non, v_glob, v_add, v_sub, v_neg, v_idx, v_len, onV_d, onV_scr, onW_d, onW_scr, onW_own, simR, sv, frzT, E.sim?, E.var?, SE.var?, Tv.item, Tv.len, PyData.itemsOf, List.map_cons, List.map_nil, List.replicate, List.cons_append, List.nil_append, List.length_cons, List.length_nil, List.set_cons_zero, List.set_cons_succ, List.getElem?_cons_zero, List.getElem?_cons_succ, Option.join_some, Option.some.injEq, Option.map_some, exists_eq', exists_eq, exists_eq_left', exists_eq_left, exists_and_left, Option.bind_some, Option.bind_eq_bind, Option.pure_def, wipeR, restR, keepD, Tv.d.injEq, Tv.own.injEq, PyData.int.injEq, PyData.bool.injEq, PyData.tuple.injEq, PyData.list.injEq, PyData.str.injEq, List.cons.injEq, and_true, if_tt, if_ff, Option.bind_none, Option.getD_none, Option.getD_some, Int.sub_zero, Int.zero_add, and_assoc, true_and, exists_const, Nat.reduceAdd, Nat.reduceLT, Nat.reduceSub, Nat.zero_add]
      rw [r_cons]
      simp only [r_nil, r_set, r_unp, r_par, r_ix1, r_ix2, r_ixp, r_ixe, r_app, r_ext, r_expr, r_ret, r_retv, r_retN, r_if, r_for, r_while, r_pass, r_brk, r_cont, q_sim, q_bin, q_neg, q_cmp, q_isN, q_notN, q_chain, q_and, q_or, q_and1, q_and2, q_or1, q_or2, q_not, q_ite, q_tup, q_lst, q_idx, q_slice, q_rev, q_blt1, q_bltv, q_blt2, q_sortset, q_lrng, q_lc, q_pop, q_index, q_es0, q_es1, q_o0, q_o1, q_c0, q_c1, q_seq, q_rng, q_enum, q_zip, g_name, g_tup, g_t0, g_t1, o_add, o_sub, o_mul, o_fdiv, o_mod, o_pow, f_d, f_nil, c_lt, c_le, c_gt, c_ge, c_eq, c_ne, at0, at1, at2, ix0, ix1, ix2, v_var, v_int, v_str, v_bl, v_non, v_glob, v_add, v_sub, v_neg, v_idx, v_len, onV_d, onV_scr, onW_d, onW_scr, onW_own, simR, sv, frzT, E.sim?, E.var?, SE.var?, Tv.item, Tv.len, PyData.itemsOf, List.map_cons, List.map_nil, List.replicate, List.cons_append, List.nil_append, List.length_cons, List.length_nil, List.set_cons_zero, List.set_cons_succ, List.getElem?_cons_zero, List.getElem?_cons_succ, Option.join_some, Option.some.injEq, Option.map_some, exists_eq', exists_eq, exists_eq_left', exists_eq_left, exists_and_left, Option.bind_some, Option.bind_eq_bind, Option.pure_def, wipeR, restR, keepD, Tv.d.injEq, Tv.own.injEq, PyData.int.injEq, PyData.bool.injEq, PyData.tuple.injEq, PyData.list.injEq, PyData.str.injEq, List.cons.injEq, and_true, if_tt, if_ff, Option.bind_none, Option.getD_none, Option.getD_some, Int.sub_zero, Int.zero_add, and_assoc, true_and, exists_const, Nat.reduceAdd, Nat.reduceLT, Nat.reduceSub, Nat.zero_add]
      refine c_neNil (ds := (p :: A).map pairD) hsp ?_
      simp only [List.map_cons, List.isEmpty_cons, Bool.not_false, r_nil, r_set, r_unp, r_par, r_ix1, r_ix2, r_ixp, r_ixe, r_app, r_ext, r_expr, r_ret, r_retv, r_retN, r_if, r_for, r_while, r_pass, r_brk, r_cont, q_sim, q_bin, q_neg, q_cmp, q_isN, q_notN, q_chain, q_and, q_or, q_and1, q_and2, q_or1, q_or2, q_not, q_ite, q_tup, q_lst, q_idx, q_slice, q_rev, q_blt1, q_bltv, q_blt2, q_sortset, q_lrng, q_lc, q_pop, q_index, q_es0, q_es1, q_o0, q_o1, q_c0, q_c1, q_seq, q_rng, q_enum, q_zip, g_name, g_tup, g_t0, g_t1, o_add, o_sub, o_mul, o_fdiv, o_mod, o_pow, f_d, f_nil, c_lt, c_le, c_gt, c_ge, c_eq, c_ne, at0, at1, at2, ix0, ix1, ix2, v_var, v_int, v_str, v_bl, v_non, v_glob, v_add, v_sub, v_neg, v_idx, v_len, onV_d, onV_scr, onW_d, onW_scr, onW_own, simR, sv, frzT, E.sim?, E.var?, SE.var?, Tv.item, Tv.len, PyData.itemsOf, List.map_cons, List.map_nil, List.replicate, List.cons_append, List.nil_append, List.length_cons, List.length_nil, List.set_cons_zero, List.set_cons_succ, List.getElem?_cons_zero, List.getElem?_cons_succ, Option.join_some, Option.some.injEq, Option.map_some, exists_eq', exists_eq, exists_eq_left', exists_eq_left, exists_and_left, Option.bind_some, Option.bind_eq_bind, Option.pure_def, wipeR, restR, keepD, Tv.d.injEq, Tv.own.injEq, PyData.int.injEq, PyData.bool.injEq, PyData.tuple.injEq, PyData.list.injEq, PyData.str.injEq, List.cons.injEq, and_true, if_tt, if_ff, Option.bind_none, Option.getD_none, Option.getD_some, Int.sub_zero, Int.zero_add, and_assoc, true_and, exists_const, Nat.reduceAdd, Nat.reduceLT, Nat.reduceSub, Nat.zero_add]
      refine c_neNil (ds := []) rfl ?_
      simp only [List.map_nil, List.isEmpty_nil, Bool.not_true, r_nil, r_cons, r_set, r_unp, r_par, r_ix1, r_ix2, r_ixp, r_ixe, r_app, r_ext, r_expr, r_ret, r_retv, r_retN, r_if, r_for, r_while, r_pass, r_brk, r_cont, q_sim, q_bin, q_neg, q_cmp, q_isN, q_notN, q_chain, q_and, q_or, q_and1, q_and2, q_or1, q_or2, q_not, q_ite, q_tup, q_lst, q_idx, q_slice, q_rev, q_blt1, q_bltv, q_blt2, q_sortset, q_lrng, q_lc, q_pop, q_index, q_es0, q_es1, q_o0, q_o1, q_c0, q_c1, q_seq, q_rng, q_enum, q_zip, g_name, g_tup, g_t0, g_t1, o_add, o_sub, o_mul, o_fdiv, o_mod, o_pow, f_d, f_nil, c_lt, c_le, c_gt, c_ge, c_eq, c_ne, at0, at1, at2, ix0, ix1, ix2, v_var, v_int, v_str, v_bl, v_non, v_glob, v_add, v_sub, v_neg, v_idx, v_len, onV_d, onV_scr, onW_d, onW_scr, onW_own, simR, sv, frzT, E.sim?, E.var?, SE.var?, Tv.item, Tv.len, PyData.itemsOf, List.map_cons, List.map_nil, List.replicate, List.cons_append, List.nil_append, List.length_cons, List.length_nil, List.set_cons_zero, List.set_cons_succ, List.getElem?_cons_zero, List.getElem?_cons_succ, Option.join_some, Option.some.injEq, Option.map_some, exists_eq', exists_eq, exists_eq_left', exists_eq_left, exists_and_left, Option.bind_some, Option.bind_eq_bind, Option.pure_def, wipeR, restR, keepD, Tv.d.injEq, Tv.own.injEq, PyData.int.injEq, PyData.bool.injEq, PyData.tuple.injEq, PyData.list.injEq, PyData.str.injEq, List.cons.injEq, and_true, if_tt, if_ff, Option.bind_none, Option.getD_none, Option.getD_some, Int.sub_zero, Int.zero_add, and_assoc, true_and, exists_const, Nat.reduceAdd, Nat.reduceLT, Nat.reduceSub, Nat.zero_add]
      exact hD _ _ _ (hsame hlc)
    | cons q B =>
      have hsq : ((q :: B).map pairD).all (shal 29) = true := shal_pairs 28 _
      have hlc : lawCell own i j = if p :: A = q :: B then (own.length : Int) - 1 else if sideOf i p = sideOf j q then 1 else -1 := hlc
      refine c_neNil (ds := (q :: B).map pairD) hsq ?_
      simp only [List.map_cons, List.isEmpty_cons, Bool.not_false, r_nil, r_set, r_unp, r_par, r_ix1, r_ix2, r_ixp, r_ixe, r_app, r_ext, r_expr, r_ret, r_retv, r_retN, r_if, r_for, r_while, r_pass, r_brk, r_cont, q_sim, q_bin, q_neg, q_cmp, q_isN, q_notN, q_chain, q_and, q_or, q_and1, q_and2, q_or1, q_or2, q_not, q_ite, q_tup, q_lst, q_idx, q_slice, q_rev, q_blt1, q_bltv, q_blt2, q_sortset, q_lrng, q_lc, q_pop, q_index, q_es0, q_es1, q_o0, q_o1, q_c0, q_c1, q_seq, q_rng, q_enum, q_zip, g_name, g_tup, g_t0, g_t1, o_add, o_sub, o_mul, o_fdiv, o_mod, o_pow, f_d, f_nil, c_lt, c_le, c_gt, c_ge, c_eq, c_ne, at0, at1, at2, ix0, ix1, ix2, v_var, v_int, v_str, v_bl, v_non, v_glob, v_add, v_sub, v_neg, v_idx, v_len, onV_d, onV_scr, onW_d, onW_scr, onW_own, simR, sv, frzT, E.sim?, E.var?, SE.var?, Tv.item, Tv.len, PyData.itemsOf, List.map_cons, List.map_nil, List.replicate, List.cons_append, List.nil_append, List.length_cons, List.length_nil, List.set_cons_zero, List.set_cons_succ, List.getElem?_cons_zero, List.getElem?_cons_succ, Option.join_some, Option.some.injEq, Option.map_some, exists_eq', exists_eq, exists_eq_left', exists_eq_left, exists_and_left, Option.bind_some, Option.bind_eq_bind, Option.pure_def, wipeR, restR, keepD, Tv.d.injEq, Tv.own.injEq, PyData.int.injEq, PyData.bool.injEq, PyData.tuple.injEq, PyData.list.injEq, PyData.str.injEq, List.cons.injEq, and_true, if_tt, if_ff, Option.bind_none, Option.getD_none, Option.getD_some, Int.sub_zero, Int.zero_add, and_assoc, true_and, exists_const, Nat.reduceAdd, Nat.reduceLT, Nat.reduceSub, Nat.zero_add]
      refine c_eqPrsO (o := p :: A) (u := q :: B) (if_l (fun heq => ?_) fun hne => ?_)
      · have heq := eq_of_beq heq
        rw [if_pos heq] at hlc
        rw [r_cons]
        simp only [List.length_map, r_nil, r_set, r_unp, r_par, r_ix1, r_ix2, r_ixp, r_ixe, r_app, r_ext, r_expr, r_ret, r_retv, r_retN, r_if, r_for, r_while, r_pass, r_brk, r_cont, q_sim, q_bin, q_neg, q_cmp, q_isN, q_notN, q_chain, q_and, q_or, q_and1, q_and2, q_or1, q_or2, q_not, q_ite, q_tup, q_lst, q_idx, q_slice, q_rev, q_blt1, q_bltv, q_blt2, q_sortset, q_lrng, q_lc, q_pop, q_index, q_es0, q_es1, q_o0, q_o1, q_c0, q_c1, q_seq, q_rng, q_enum, q_zip, g_name, g_tup, g_t0, g_t1, o_add, o_sub, o_mul, o_fdiv, o_mod, o_pow, f_d, f_nil, c_lt, c_le, c_gt, c_ge, c_eq, c_ne, at0, at1, at2, ix0, ix1, ix2, v_var, v_int, v_str, v_bl, v_non, v_glob, v_add, v_sub, v_neg, v_idx, v_len, onV_d, onV_scr, onW_d, onW_scr, onW_own, simR, sv, frzT, E.sim?, E.var?, SE.var?, Tv.item, Tv.len, PyData.itemsOf, List.map_cons, List.map_nil, List.replicate, List.cons_append, List.nil_append, List.length_cons, List.length_nil, List.set_cons_zero, List.set_cons_succ, List.getElem?_cons_zero, List.getElem?_cons_succ, Option.join_some, Option.some.injEq, Option.map_some, exists_eq', exists_eq, exists_eq_left', exists_eq_left, exists_and_left, Option.bind_some, Option.bind_eq_bind, Option.pure_def, wipeR, restR, keepD, Tv.d.injEq, Tv.own.injEq, PyData.int.injEq, PyData.bool.injEq, PyData.tuple.injEq, PyData.list.injEq, PyData.str.injEq, List.cons.injEq, and_true, if_tt, if_ff, Option.bind_none, Option.getD_none, Option.getD_some, Int.sub_zero, Int.zero_add, and_assoc, true_and, exists_const, Nat.reduceAdd, Nat.reduceLT, Nat.reduceSub, Nat.zero_add]
        refine ⟨i, ixN_mat f hi, _, mat_get f hi, j, ixN_row (f i) hj, ?_⟩
        rw [mat_set]
        exact hD _ _ _ (by rw [hlc])
      · have hne : ¬ (p :: A = q :: B) := fun z => by rw [z] at hne; simp at hne
        rw [if_neg hne] at hlc
        rw [r_cons]
        simp only [r_nil, r_set, r_unp, r_par, r_ix1, r_ix2, r_ixp, r_ixe, r_app, r_ext, r_expr, r_ret, r_retv, r_retN, r_if, r_for, r_while, r_pass, r_brk, r_cont, q_sim, q_bin, q_neg, q_cmp, q_isN, q_notN, q_chain, q_and, q_or, q_and1, q_and2, q_or1, q_or2, q_not, q_ite, q_tup, q_lst, q_idx, q_slice, q_rev, q_blt1, q_bltv, q_blt2, q_sortset, q_lrng, q_lc, q_pop, q_index, q_es0, q_es1, q_o0, q_o1, q_c0, q_c1, q_seq, q_rng, q_enum, q_zip, g_name, g_tup, g_t0, g_t1, o_add, o_sub, o_mul, o_fdiv, o_mod, o_pow, f_d, f_nil, c_lt, c_le, c_gt, c_ge, c_eq, c_ne, at0, at1, at2, ix0, ix1, ix2, v_var, v_int, v_str, v_bl, v_non, v_glob, v_add, v_sub, v_neg, v_idx, v_len, onV_d, onV_scr, onW_d, onW_scr, onW_own, simR, sv, frzT, E.sim?, E.var?, SE.var?, Tv.item, Tv.len, PyData.itemsOf, List.map_cons, List.map_nil, List.replicate, List.cons_append, List.nil_append, List.length_cons, List.length_nil, List.set_cons_zero, List.set_cons_succ, List.getElem?_cons_zero, List.getElem?_cons_succ, Option.join_some, Option.some.injEq, Option.map_some, exists_eq', exists_eq, exists_eq_left', exists_eq_left, exists_and_left, Option.bind_some, Option.bind_eq_bind, Option.pure_def, wipeR, restR, keepD, Tv.d.injEq, Tv.own.injEq, PyData.int.injEq, PyData.bool.injEq, PyData.tuple.injEq, PyData.list.injEq, PyData.str.injEq, List.cons.injEq, and_true, if_tt, if_ff, Option.bind_none, Option.getD_none, Option.getD_some, Int.sub_zero, Int.zero_add, and_assoc, true_and, exists_const, Nat.reduceAdd, Nat.reduceLT, Nat.reduceSub, Nat.zero_add]
        refine c_neNil (ds := (p :: A).map pairD) hsp ?_
        simp only [List.map_cons, List.isEmpty_cons, Bool.not_false, r_nil, r_set, r_unp, r_par, r_ix1, r_ix2, r_ixp, r_ixe, r_app, r_ext, r_expr, r_ret, r_retv, r_retN, r_if, r_for, r_while, r_pass, r_brk, r_cont, q_sim, q_bin, q_neg, q_cmp, q_isN, q_notN, q_chain, q_and, q_or, q_and1, q_and2, q_or1, q_or2, q_not, q_ite, q_tup, q_lst, q_idx, q_slice, q_rev, q_blt1, q_bltv, q_blt2, q_sortset, q_lrng, q_lc, q_pop, q_index, q_es0, q_es1, q_o0, q_o1, q_c0, q_c1, q_seq, q_rng, q_enum, q_zip, g_name, g_tup, g_t0, g_t1, o_add, o_sub, o_mul, o_fdiv, o_mod, o_pow, f_d, f_nil, c_lt, c_le, c_gt, c_ge, c_eq, c_ne, at0, at1, at2, ix0, ix1, ix2, v_var, v_int, v_str, v_bl, v_non, v_glob, v_add, v_sub, v_neg, v_idx, v_len, onV_d, onV_scr, onW_d, onW_scr, onW_own, simR, sv, frzT, E.sim?, E.var?, SE.var?, Tv.item, Tv.len, PyData.itemsOf, List.map_cons, List.map_nil, List.replicate, List.cons_append, List.nil_append, List.length_cons, List.length_nil, List.set_cons_zero, List.set_cons_succ, List.getElem?_cons_zero, List.getElem?_cons_succ, Option.join_some, Option.some.injEq, Option.map_some, exists_eq', exists_eq, exists_eq_left', exists_eq_left, exists_and_left, Option.bind_some, Option.bind_eq_bind, Option.pure_def, wipeR, restR, keepD, Tv.d.injEq, Tv.own.injEq, PyData.int.injEq, PyData.bool.injEq, PyData.tuple.injEq, PyData.list.injEq, PyData.str.injEq, List.cons.injEq, and_true, if_tt, if_ff, Option.bind_none, Option.getD_none, Option.getD_some, Int.sub_zero, Int.zero_add, and_assoc, true_and, exists_const, Nat.reduceAdd, Nat.reduceLT, Nat.reduceSub, Nat.zero_add]
        refine c_neNil (ds := (q :: B).map pairD) hsq ?_
        simp only [List.map_cons, List.isEmpty_cons, Bool.not_false, r_nil, r_set, r_unp, r_par, r_ix1, r_ix2, r_ixp, r_ixe, r_app, r_ext, r_expr, r_ret, r_retv, r_retN, r_if, r_for, r_while, r_pass, r_brk, r_cont, q_sim, q_bin, q_neg, q_cmp, q_isN, q_notN, q_chain, q_and, q_or, q_and1, q_and2, q_or1, q_or2, q_not, q_ite, q_tup, q_lst, q_idx, q_slice, q_rev, q_blt1, q_bltv, q_blt2, q_sortset, q_lrng, q_lc, q_pop, q_index, q_es0, q_es1, q_o0, q_o1, q_c0, q_c1, q_seq, q_rng, q_enum, q_zip, g_name, g_tup, g_t0, g_t1, o_add, o_sub, o_mul, o_fdiv, o_mod, o_pow, f_d, f_nil, c_lt, c_le, c_gt, c_ge, c_eq, c_ne, at0, at1, at2, ix0, ix1, ix2, v_var, v_int, v_str, v_bl, v_non, v_glob, v_add, v_sub, v_neg, v_idx, v_len, onV_d, onV_scr, onW_d, onW_scr, onW_own, simR, sv, frzT, E.sim?, E.var?, SE.var?, Tv.item, Tv.len, PyData.itemsOf, List.map_cons, List.map_nil, List.replicate, List.cons_append, List.nil_append, List.length_cons, List.length_nil, List.set_cons_zero, List.set_cons_succ, List.getElem?_cons_zero, List.getElem?_cons_succ, Option.join_some, Option.some.injEq, Option.map_some, exists_eq', exists_eq, exists_eq_left', exists_eq_left, exists_and_left, Option.bind_some, Option.bind_eq_bind, Option.pure_def, wipeR, restR, keepD, Tv.d.injEq, Tv.own.injEq, PyData.int.injEq, PyData.bool.injEq, PyData.tuple.injEq, PyData.list.injEq, PyData.str.injEq, List.cons.injEq, and_true, if_tt, if_ff, Option.bind_none, Option.getD_none, Option.getD_some, Int.sub_zero, Int.zero_add, and_assoc, true_and, exists_const, Nat.reduceAdd, Nat.reduceLT, Nat.reduceSub, Nat.zero_add]
        rw [r_cons]
        simp only [at0, r_nil, r_set, r_unp, r_par, r_ix1, r_ix2, r_ixp, r_ixe, r_app, r_ext, r_expr, r_ret, r_retv, r_retN, r_if, r_for, r_while, r_pass, r_brk, r_cont, q_sim, q_bin, q_neg, q_cmp, q_isN, q_notN, q_chain, q_and, q_or, q_and1, q_and2, q_or1, q_or2, q_not, q_ite, q_tup, q_lst, q_idx, q_slice, q_rev, q_blt1, q_bltv, q_blt2, q_sortset, q_lrng, q_lc, q_pop, q_index, q_es0, q_es1, q_o0, q_o1, q_c0, q_c1, q_seq, q_rng, q_enum, q_zip, g_name, g_tup, g_t0, g_t1, o_add, o_sub, o_mul, o_fdiv, o_mod, o_pow, f_d, f_nil, c_lt, c_le, c_gt, c_ge, c_eq, c_ne, at0, at1, at2, ix0, ix1, ix2, v_var, v_int, v_str, v_bl, v_non, v_glob, v_add, v_sub, v_neg, v_idx, v_len, onV_d, onV_scr, onW_d, onW_scr, onW_own, simR, sv, frzT, E.sim?, E.var?, SE.var?, Tv.item, Tv.len, PyData.itemsOf, List.map_cons, List.map_nil, List.replicate, List.cons_append, List.nil_append, List.length_cons, List.length_nil, List.set_cons_zero, List.set_cons_succ, List.getElem?_cons_zero, List.getElem?_cons_succ, Option.join_some, Option.some.injEq, Option.map_some, exists_eq', exists_eq, exists_eq_left', exists_eq_left, exists_and_left, Option.bind_some, Option.bind_eq_bind, Option.pure_def, wipeR, restR, keepD, Tv.d.injEq, Tv.own.injEq, PyData.int.injEq, PyData.bool.injEq, PyData.tuple.injEq, PyData.list.injEq, PyData.str.injEq, List.cons.injEq, and_true, if_tt, if_ff, Option.bind_none, Option.getD_none, Option.getD_some, Int.sub_zero, Int.zero_add, and_assoc, true_and, exists_const, Nat.reduceAdd, Nat.reduceLT, Nat.reduceSub, Nat.zero_add]
        obtain ⟨m1, m2⟩ := idx_side i p (h1 p (by simp))
        obtain ⟨m3, m4⟩ := idx_side j q (h2 q (by simp))
        refine ⟨[((p.1 : Nat) : Int), ((p.2 : Nat) : Int)], rfl, m1, [((q.1 : Nat) : Int), ((q.2 : Nat) : Int)], rfl, m3, ?_⟩
        rw [m2, m4]
        refine if_l (fun h3 => ?_) fun h3 => ?_
        · have h3 : sideOf i p = sideOf j q := by
            have := eq_of_beq h3
            omega
          rw [if_pos h3] at hlc
          refine ⟨i, ixN_mat f hi, _, mat_get f hi, j, ixN_row (f i) hj, ?_⟩
          rw [mat_set]
          exact hD _ _ _ (by rw [hlc])
        · have h3 : sideOf i p ≠ sideOf j q := by
            have := ne_of_beq_false h3
            omega
          rw [if_neg h3] at hlc
          refine ⟨i, ixN_mat f hi, _, mat_get f hi, j, ixN_row (f i) hj, ?_⟩
          rw [mat_set]
          exact hD _ _ _ (by rw [hlc])
def plL (o2 : Tv) (own : Prs) : Prop := o2 = .own ((own.map pairD).map Tv.d) ∨ o2 = .d (.list (own.map pairD))
theorem ok_packT1 {f : TF} {i j : Nat} {o2 : Tv} (ho : plL o2 own) (hP : P ≤ 10) (hown : PrsIn P own) (hi : i < P) (hj : j < P) (hij : i ≠ j) (h0 : f i j = 0)
    (hx0 : x0 = x0) (hD : ∀ x10 x11 f', f' = setF f i j (lawCell own i j) → D.nx [x0, x1, some (.d (.list (own.map pairD))), some (.own (matL P f')), some (.d (.int (i : Nat))), some (.d (.int (j : Nat))), none, none, none, none, some x10, some x11, none]) :
    wSL Γ Φ bPackT1 D [x0, x1, some o2, some (.own (matL P f)), some (.d (.int (i : Nat))), some (.d (.int (j : Nat))), none, none, none, none, none, none, none] := by
  obtain ⟨hlen, hin⟩ := hown
  have step : ∀ (a : Nat) (m : Nat) (y : PyData), (own.map pairD)[m]? = some y → ∃ p : Nat × Nat, own[m]? = some p ∧ y = pairD p := fun a m y hy => by
    rw [List.getElem?_map] at hy
    obtain ⟨p, hp, rfl⟩ := Option.map_eq_some_iff.mp hy
    exact ⟨p, hp, rfl⟩
  have key : wSL Γ Φ bPackT1 D [x0, x1, some (.d (.list (own.map pairD))), some (.own (matL P f)), some (.d (.int (i : Nat))), some (.d (.int (j : Nat))), none, none, none, none, none, none, none] := by
    rw [bPackT1, r_cons]
    simp only [r_nil, r_set, r_unp, r_par, r_ix1, r_ix2, r_ixp, r_ixe, r_app, r_ext, r_expr, r_ret, r_retv, r_retN, r_if, r_for, r_while, r_pass, r_brk, r_cont, q_sim, q_bin, q_neg, q_cmp, q_isN, q_notN, q_chain, q_and, q_or, q_and1, q_and2, q_or1, q_or2, q_not, q_ite, q_tup, q_lst, q_idx, q_slice, q_rev, q_blt1, q_bltv, q_blt2, q_sortset, q_lrng, q_lc, q_pop, q_index, q_es0, q_es1, q_o0, q_o1, q_c0, q_c1, q_seq, q_rng, q_enum, q_zip, g_name, g_tup, g_t0, g_t1, o_add, o_sub, o_mul, o_fdiv, o_mod, o_pow, f_d, f_nil, c_lt, c_le, c_gt, c_ge, c_eq, c_ne, at0, at1, at2, ix0, ix1, ix2, v_var, v_int, v_str, v_bl, v_non, v_glob, v_add, v_sub, v_neg, v_idx, v_len, onV_d, onV_scr, onW_d, onW_scr, onW_own, simR, sv, frzT, E.sim?, E.var?, SE.var?, Tv.item, Tv.len, PyData.itemsOf, List.map_cons, List.map_nil, List.replicate, List.cons_append, List.nil_append, List.length_cons, List.length_nil, List.set_cons_zero, List.set_cons_succ, List.getElem?_cons_zero, List.getElem?_cons_succ, Option.join_some, Option.some.injEq, Option.map_some, exists_eq', exists_eq, exists_eq_left', exists_eq_left, exists_and_left, Option.bind_some, Option.bind_eq_bind, Option.pure_def, wipeR, restR, keepD, Tv.d.injEq, Tv.own.injEq, PyData.int.injEq, PyData.bool.injEq, PyData.tuple.injEq, PyData.list.injEq, PyData.str.injEq, List.cons.injEq, and_true, if_tt, if_ff, Option.bind_none, Option.getD_none, Option.getD_some, Int.sub_zero, Int.zero_add, and_assoc, true_and, exists_const, Nat.reduceAdd, Nat.reduceLT, Nat.reduceSub, Nat.zero_add]
    refine ⟨fun m acc ρ => acc = (((own.take m).filter (has i)).map pairD).map Tv.d ∧ ρ = [x0, x1, some (.d (.list (own.map pairD))), some (.own (matL P f)), some (.d (.int (i : Nat))), some (.d (.int (j : Nat))), none, none, none, none, none, none, none], ⟨rfl, rfl⟩, ?_, ?_⟩
    · rintro m y acc ρ2 hy ⟨rfl, rfl⟩
      obtain ⟨p, hp, rfl⟩ := step i m y hy
      have hm := (List.getElem?_eq_some_iff.mp hp).1
      have hfl := List.length_filter_le (has i) (own.take m)
      rw [List.length_take] at hfl
      simp only [List.length_map, r_nil, r_cons, r_set, r_unp, r_par, r_ix1, r_ix2, r_ixp, r_ixe, r_app, r_ext, r_expr, r_ret, r_retv, r_retN, r_if, r_for, r_while, r_pass, r_brk, r_cont, q_sim, q_bin, q_neg, q_cmp, q_isN, q_notN, q_chain, q_and, q_or, q_and1, q_and2, q_or1, q_or2, q_not, q_ite, q_tup, q_lst, q_idx, q_slice, q_rev, q_blt1, q_bltv, q_blt2, q_sortset, q_lrng, q_lc, q_pop, q_index, q_es0, q_es1, q_o0, q_o1, q_c0, q_c1, q_seq, q_rng, q_enum, q_zip, g_name, g_tup, g_t0, g_t1, o_add, o_sub, o_mul, o_fdiv, o_mod, o_pow, f_d, f_nil, c_lt, c_le, c_gt, c_ge, c_eq, c_ne, at0, at1, at2, ix0, ix1, ix2, v_var, v_int, v_str, v_bl, v_non, v_glob, v_add, v_sub, v_neg, v_idx, v_len, onV_d, onV_scr, onW_d, onW_scr, onW_own, simR, sv, frzT, E.sim?, E.var?, SE.var?, Tv.item, Tv.len, PyData.itemsOf, List.map_cons, List.map_nil, List.replicate, List.cons_append, List.nil_append, List.length_cons, List.length_nil, List.set_cons_zero, List.set_cons_succ, List.getElem?_cons_zero, List.getElem?_cons_succ, Option.join_some, Option.some.injEq, Option.map_some, exists_eq', exists_eq, exists_eq_left', exists_eq_left, exists_and_left, Option.bind_some, Option.bind_eq_bind, Option.pure_def, wipeR, restR, keepD, Tv.d.injEq, Tv.own.injEq, PyData.int.injEq, PyData.bool.injEq, PyData.tuple.injEq, PyData.list.injEq, PyData.str.injEq, List.cons.injEq, and_true, if_tt, if_ff, Option.bind_none, Option.getD_none, Option.getD_some, Int.sub_zero, Int.zero_add, and_assoc, true_and, exists_const, Nat.reduceAdd, Nat.reduceLT, Nat.reduceSub, Nat.zero_add]
      refine c_inT (shal_int _ _) (shal_int2 _ _ _) ?_
      rw [has_in]
      refine ⟨fun h2 => ⟨small64 (by omega), ?_⟩, fun h2 => ?_⟩
      · rw [filter_st (has i) hp h2, List.map_append, List.map_append]
        rfl
      · rw [filter_sf (has i) hp h2]
    rintro acc ρ2 ⟨rfl, rfl⟩
    rw [List.length_map, List.take_length]
    simp only [r_nil, r_set, r_unp, r_par, r_ix1, r_ix2, r_ixp, r_ixe, r_app, r_ext, r_expr, r_ret, r_retv, r_retN, r_if, r_for, r_while, r_pass, r_brk, r_cont, q_sim, q_bin, q_neg, q_cmp, q_isN, q_notN, q_chain, q_and, q_or, q_and1, q_and2, q_or1, q_or2, q_not, q_ite, q_tup, q_lst, q_idx, q_slice, q_rev, q_blt1, q_bltv, q_blt2, q_sortset, q_lrng, q_lc, q_pop, q_index, q_es0, q_es1, q_o0, q_o1, q_c0, q_c1, q_seq, q_rng, q_enum, q_zip, g_name, g_tup, g_t0, g_t1, o_add, o_sub, o_mul, o_fdiv, o_mod, o_pow, f_d, f_nil, c_lt, c_le, c_gt, c_ge, c_eq, c_ne, at0, at1, at2, ix0, ix1, ix2, v_var, v_int, v_str, v_bl, v_non, v_glob, v_add, v_sub, v_neg, v_idx, v_len, onV_d, onV_scr, onW_d, onW_scr, onW_own, simR, sv, frzT, E.sim?, E.var?, SE.var?, Tv.item, Tv.len, PyData.itemsOf, List.map_cons, List.map_nil, List.replicate, List.cons_append, List.nil_append, List.length_cons, List.length_nil, List.set_cons_zero, List.set_cons_succ, List.getElem?_cons_zero, List.getElem?_cons_succ, Option.join_some, Option.some.injEq, Option.map_some, exists_eq', exists_eq, exists_eq_left', exists_eq_left, exists_and_left, Option.bind_some, Option.bind_eq_bind, Option.pure_def, wipeR, restR, keepD, Tv.d.injEq, Tv.own.injEq, PyData.int.injEq, PyData.bool.injEq, PyData.tuple.injEq, PyData.list.injEq, PyData.str.injEq, List.cons.injEq, and_true, if_tt, if_ff, Option.bind_none, Option.getD_none, Option.getD_some, Int.sub_zero, Int.zero_add, and_assoc, true_and, exists_const, Nat.reduceAdd, Nat.reduceLT, Nat.reduceSub, Nat.zero_add]
    rw [r_cons]
    simp only [r_nil, r_set, r_unp, r_par, r_ix1, r_ix2, r_ixp, r_ixe, r_app, r_ext, r_expr, r_ret, r_retv, r_retN, r_if, r_for, r_while, r_pass, r_brk, r_cont, q_sim, q_bin, q_neg, q_cmp, q_isN, q_notN, q_chain, q_and, q_or, q_and1, q_and2, q_or1, q_or2, q_not, q_ite, q_tup, q_lst, q_idx, q_slice, q_rev, q_blt1, q_bltv, q_blt2, q_sortset, q_lrng, q_lc, q_pop, q_index, q_es0, q_es1, q_o0, q_o1, q_c0, q_c1, q_seq, q_rng, q_enum, q_zip, g_name, g_tup, g_t0, g_t1, o_add, o_sub, o_mul, o_fdiv, o_mod, o_pow, f_d, f_nil, c_lt, c_le, c_gt, c_ge, c_eq, c_ne, at0, at1, at2, ix0, ix1, ix2, v_var, v_int, v_str, v_bl, v_non, v_glob, v_add, v_sub, v_neg, v_idx, v_len, onV_d, onV_scr, onW_d, onW_scr, onW_own, simR, sv, frzT, E.sim?, E.var?, SE.var?, Tv.item, Tv.len, PyData.itemsOf, List.map_cons, List.map_nil, List.replicate, List.cons_append, List.nil_append, List.length_cons, List.length_nil, List.set_cons_zero, List.set_cons_succ, List.getElem?_cons_zero, List.getElem?_cons_succ, Option.join_some, Option.some.injEq, Option.map_some, exists_eq', exists_eq, exists_eq_left', exists_eq_left, exists_and_left, Option.bind_some, Option.bind_eq_bind, Option.pure_def, wipeR, restR, keepD, Tv.d.injEq, Tv.own.injEq, PyData.int.injEq, PyData.bool.injEq, PyData.tuple.injEq, PyData.list.injEq, PyData.str.injEq, List.cons.injEq, and_true, if_tt, if_ff, Option.bind_none, Option.getD_none, Option.getD_some, Int.sub_zero, Int.zero_add, and_assoc, true_and, exists_const, Nat.reduceAdd, Nat.reduceLT, Nat.reduceSub, Nat.zero_add]
    refine ⟨fun m acc ρ => acc = (((own.take m).filter (has j)).map pairD).map Tv.d ∧ ρ = [x0, x1, some (.d (.list (own.map pairD))), some (.own (matL P f)), some (.d (.int (i : Nat))), some (.d (.int (j : Nat))), none, none, none, none, some (.own (((own.filter (has i)).map pairD).map .d)), none, none], ⟨rfl, rfl⟩, ?_, ?_⟩
    · rintro m y acc ρ2 hy ⟨rfl, rfl⟩
      obtain ⟨p, hp, rfl⟩ := step j m y hy
      have hm := (List.getElem?_eq_some_iff.mp hp).1
      have hfl := List.length_filter_le (has j) (own.take m)
      rw [List.length_take] at hfl
      simp only [List.length_map, r_nil, r_cons, r_set, r_unp, r_par, r_ix1, r_ix2, r_ixp, r_ixe, r_app, r_ext, r_expr, r_ret, r_retv, r_retN, r_if, r_for, r_while, r_pass, r_brk, r_cont, q_sim, q_bin, q_neg, q_cmp, q_isN, q_notN, q_chain, q_and, q_or, q_and1, q_and2, q_or1, q_or2, q_not, q_ite, q_tup, q_lst, q_idx, q_slice, q_rev, q_blt1, q_bltv, q_blt2, q_sortset, q_lrng, q_lc, q_pop, q_index, q_es0, q_es1, q_o0, q_o1, q_c0, q_c1, q_seq, q_rng, q_enum, q_zip, g_name, g_tup, g_t0, g_t1, o_add, o_sub, o_mul, o_fdiv, o_mod, o_pow, f_d, f_nil, c_lt, c_le, c_gt, c_ge, c_eq, c_ne, at0, at1, at2, ix0, ix1, ix2, v_var, v_int, v_str, v_bl, v_non, v_glob, v_add, v_sub, v_neg, v_idx, v_len, onV_d, onV_scr, onW_d, onW_scr, onW_own, simR, sv, frzT, E.sim?, E.var?, SE.var?, Tv.item, Tv.len, PyData.itemsOf, List.map_cons, List.map_nil, List.replicate, List.cons_append, List.nil_append, List.length_cons, List.length_nil, List.set_cons_zero, List.set_cons_succ, List.getElem?_cons_zero, List.getElem?_cons_succ, Option.join_some, Option.some.injEq, Option.map_some, exists_eq', exists_eq, exists_eq_left', exists_eq_left, exists_and_left, Option.bind_some, Option.bind_eq_bind, Option.pure_def, wipeR, restR, keepD, Tv.d.injEq, Tv.own.injEq, PyData.int.injEq, PyData.bool.injEq, PyData.tuple.injEq, PyData.list.injEq, PyData.str.injEq, List.cons.injEq, and_true, if_tt, if_ff, Option.bind_none, Option.getD_none, Option.getD_some, Int.sub_zero, Int.zero_add, and_assoc, true_and, exists_const, Nat.reduceAdd, Nat.reduceLT, Nat.reduceSub, Nat.zero_add]
      refine c_inT (shal_int _ _) (shal_int2 _ _ _) ?_
      rw [has_in]
      refine ⟨fun h2 => ⟨small64 (by omega), ?_⟩, fun h2 => ?_⟩
      · rw [filter_st (has j) hp h2, List.map_append, List.map_append]
        rfl
      · rw [filter_sf (has j) hp h2]
    rintro acc ρ2 ⟨rfl, rfl⟩
    rw [List.length_map, List.take_length]
    simp only [r_nil, r_set, r_unp, r_par, r_ix1, r_ix2, r_ixp, r_ixe, r_app, r_ext, r_expr, r_ret, r_retv, r_retN, r_if, r_for, r_while, r_pass, r_brk, r_cont, q_sim, q_bin, q_neg, q_cmp, q_isN, q_notN, q_chain, q_and, q_or, q_and1, q_and2, q_or1, q_or2, q_not, q_ite, q_tup, q_lst, q_idx, q_slice, q_rev, q_blt1, q_bltv, q_blt2, q_sortset, q_lrng, q_lc, q_pop, q_index, q_es0, q_es1, q_o0, q_o1, q_c0, q_c1, q_seq, q_rng, q_enum, q_zip, g_name, g_tup, g_t0, g_t1, o_add, o_sub, o_mul, o_fdiv, o_mod, o_pow, f_d, f_nil, c_lt, c_le, c_gt, c_ge, c_eq, c_ne, at0, at1, at2, ix0, ix1, ix2, v_var, v_int, v_str, v_bl, v_non, v_glob, v_add, v_sub, v_neg, v_idx, v_len, onV_d, onV_scr, onW_d, onW_scr, onW_own, simR, sv, frzT, E.sim?, E.var?, SE.var?, Tv.item, Tv.len, PyData.itemsOf, List.map_cons, List.map_nil, List.replicate, List.cons_append, List.nil_append, List.length_cons, List.length_nil, List.set_cons_zero, List.set_cons_succ, List.getElem?_cons_zero, List.getElem?_cons_succ, Option.join_some, Option.some.injEq, Option.map_some, exists_eq', exists_eq, exists_eq_left', exists_eq_left, exists_and_left, Option.bind_some, Option.bind_eq_bind, Option.pure_def, wipeR, restR, keepD, Tv.d.injEq, Tv.own.injEq, PyData.int.injEq, PyData.bool.injEq, PyData.tuple.injEq, PyData.list.injEq, PyData.str.injEq, List.cons.injEq, and_true, if_tt, if_ff, Option.bind_none, Option.getD_none, Option.getD_some, Int.sub_zero, Int.zero_add, and_assoc, true_and, exists_const, Nat.reduceAdd, Nat.reduceLT, Nat.reduceSub, Nat.zero_add]
    exact ok_packT2 hP ⟨hlen, hin⟩ hi hj hij h0 hD
  rcases ho with rfl | rfl
  · rw [bPackT1, r_cons] at key ⊢
    simp only [f_own, r_nil, r_set, r_unp, r_par, r_ix1, r_ix2, r_ixp, r_ixe, r_app, r_ext, r_expr, r_ret, r_retv, r_retN, r_if, r_for, r_while, r_pass, r_brk, r_cont, q_sim, q_bin, q_neg, q_cmp, q_isN, q_notN, q_chain, q_and, q_or, q_and1, q_and2, q_or1, q_or2, q_not, q_ite, q_tup, q_lst, q_idx, q_slice, q_rev, q_blt1, q_bltv, q_blt2, q_sortset, q_lrng, q_lc, q_pop, q_index, q_es0, q_es1, q_o0, q_o1, q_c0, q_c1, q_seq, q_rng, q_enum, q_zip, g_name, g_tup, g_t0, g_t1, o_add, o_sub, o_mul, o_fdiv, o_mod, o_pow, f_d, f_nil, c_lt, c_le, c_gt, c_ge, c_eq, c_ne, at0, at1, at2, ix0, ix1, ix2, v_var, v_int, v_str, v_bl, v_non, v_glob, v_add, v_sub, v_neg, v_idx, v_len, onV_d, onV_scr, onW_d, onW_scr, onW_own, simR, sv, frzT, E.sim?, E.var?, SE.var?, Tv.item, Tv.len, PyData.itemsOf, List.map_cons, List.map_nil, List.replicate, List.cons_append, List.nil_append, List.length_cons, List.length_nil, List.set_cons_zero, List.set_cons_succ, List.getElem?_cons_zero, List.getElem?_cons_succ, Option.join_some, Option.some.injEq, Option.map_some, exists_eq', exists_eq, exists_eq_left', exists_eq_left, exists_and_left, Option.bind_some, Option.bind_eq_bind, Option.pure_def, wipeR, restR, keepD, Tv.d.injEq, Tv.own.injEq, PyData.int.injEq, PyData.bool.injEq, PyData.tuple.injEq, PyData.list.injEq, PyData.str.injEq, List.cons.injEq, and_true, if_tt, if_ff, Option.bind_none, Option.getD_none, Option.getD_some, Int.sub_zero, Int.zero_add, and_assoc, true_and, exists_const, Nat.reduceAdd, Nat.reduceLT, Nat.reduceSub, Nat.zero_add] at key ⊢
    exact key
  · exact key
end
def partF (own : Prs) (i j : Nat) : TF := fun a b => if a < i ∨ (a = i ∧ b < j) then lawCell own a b else 0
theorem part_at (own : Prs) (i j : Nat) : partF own i j i j = 0 := by
  unfold partF
  rw [if_neg (by omega)]
theorem part_succ (own : Prs) (i j : Nat) : partF own i (j + 1) = setF (partF own i j) i j (lawCell own i j) := by
  funext a b
  unfold partF setF
  by_cases h : a = i ∧ b = j
  · rw [if_pos h, h.1, h.2, if_pos (by omega)]
  · rw [if_neg h]
    show _ = if a < i ∨ (a = i ∧ b < j) then lawCell own a b else 0
    by_cases h2 : a < i ∨ (a = i ∧ b < j)
    · rw [if_pos h2, if_pos (by omega)]
    · rw [if_neg h2, if_neg (by omega)]
theorem part_row (own : Prs) (i P : Nat) : matL P (partF own i P) = matL P (partF own (i + 1) 0) := mat_ext fun a b _ hb => by
  unfold partF
  by_cases h : a < i ∨ (a = i ∧ b < P)
  · rw [if_pos h, if_pos (by omega)]
  · rw [if_neg h, if_neg (by omega)]
theorem part_same {own : Prs} {i : Nat} : setF (partF own i i) i i (lawCell own i i) = partF own i i := by
  funext a b
  have h0 : lawCell own i i = 0 := by
    unfold lawCell
    rw [if_pos rfl]
  unfold setF
  rw [h0]
  split
  · rename_i z
    rw [z.1, z.2, part_at]
  · rfl
theorem ok_packTable {Γ : Gam} {Φ : Phi} (hY : Φ "_law_plays" = some feLawPlays) : ∀ xs Q, spPackTable xs Q → fsOf Γ Φ 2 13 bPackTable xs Q := by
  rintro xs Q ⟨pr, pk, ss, p, rfl, hP, hq⟩
  refine ⟨rfl, ?_⟩
  have hp1 := hP.p1
  have hp2 := hP.p2
  have hall := plays_all hP
  have hlen := plays_len hP
  have hown := own_in hall hlen p
  have hone := own_one hP p
  have hside := own_side hall p
  rw [bPackTable, r_cons]
  simp only [q_call hY rfl, args1, feLawPlays, r_nil, r_set, r_unp, r_par, r_ix1, r_ix2, r_ixp, r_ixe, r_app, r_ext, r_expr, r_ret, r_retv, r_retN, r_if, r_for, r_while, r_pass, r_brk, r_cont, q_sim, q_bin, q_neg, q_cmp, q_isN, q_notN, q_chain, q_and, q_or, q_and1, q_and2, q_or1, q_or2, q_not, q_ite, q_tup, q_lst, q_idx, q_slice, q_rev, q_blt1, q_bltv, q_blt2, q_sortset, q_lrng, q_lc, q_pop, q_index, q_es0, q_es1, q_o0, q_o1, q_c0, q_c1, q_seq, q_rng, q_enum, q_zip, g_name, g_tup, g_t0, g_t1, o_add, o_sub, o_mul, o_fdiv, o_mod, o_pow, f_d, f_nil, c_lt, c_le, c_gt, c_ge, c_eq, c_ne, at0, at1, at2, ix0, ix1, ix2, v_var, v_int, v_str, v_bl, v_non, v_glob, v_add, v_sub, v_neg, v_idx, v_len, onV_d, onV_scr, onW_d, onW_scr, onW_own, simR, sv, frzT, E.sim?, E.var?, SE.var?, Tv.item, Tv.len, PyData.itemsOf, List.map_cons, List.map_nil, List.replicate, List.cons_append, List.nil_append, List.length_cons, List.length_nil, List.set_cons_zero, List.set_cons_succ, List.getElem?_cons_zero, List.getElem?_cons_succ, Option.join_some, Option.some.injEq, Option.map_some, exists_eq', exists_eq, exists_eq_left', exists_eq_left, exists_and_left, Option.bind_some, Option.bind_eq_bind, Option.pure_def, wipeR, restR, keepD, Tv.d.injEq, Tv.own.injEq, PyData.int.injEq, PyData.bool.injEq, PyData.tuple.injEq, PyData.list.injEq, PyData.str.injEq, List.cons.injEq, and_true, if_tt, if_ff, Option.bind_none, Option.getD_none, Option.getD_some, Int.sub_zero, Int.zero_add, and_assoc, true_and, exists_const, Nat.reduceAdd, Nat.reduceLT, Nat.reduceSub, Nat.zero_add]
  refine ⟨pr, pk, ss, rfl, hP, fun rest => ?_⟩
  simp only [f_own, r_nil, r_set, r_unp, r_par, r_ix1, r_ix2, r_ixp, r_ixe, r_app, r_ext, r_expr, r_ret, r_retv, r_retN, r_if, r_for, r_while, r_pass, r_brk, r_cont, q_sim, q_bin, q_neg, q_cmp, q_isN, q_notN, q_chain, q_and, q_or, q_and1, q_and2, q_or1, q_or2, q_not, q_ite, q_tup, q_lst, q_idx, q_slice, q_rev, q_blt1, q_bltv, q_blt2, q_sortset, q_lrng, q_lc, q_pop, q_index, q_es0, q_es1, q_o0, q_o1, q_c0, q_c1, q_seq, q_rng, q_enum, q_zip, g_name, g_tup, g_t0, g_t1, o_add, o_sub, o_mul, o_fdiv, o_mod, o_pow, f_d, f_nil, c_lt, c_le, c_gt, c_ge, c_eq, c_ne, at0, at1, at2, ix0, ix1, ix2, v_var, v_int, v_str, v_bl, v_non, v_glob, v_add, v_sub, v_neg, v_idx, v_len, onV_d, onV_scr, onW_d, onW_scr, onW_own, simR, sv, frzT, E.sim?, E.var?, SE.var?, Tv.item, Tv.len, PyData.itemsOf, List.map_cons, List.map_nil, List.replicate, List.cons_append, List.nil_append, List.length_cons, List.length_nil, List.set_cons_zero, List.set_cons_succ, List.getElem?_cons_zero, List.getElem?_cons_succ, Option.join_some, Option.some.injEq, Option.map_some, exists_eq', exists_eq, exists_eq_left', exists_eq_left, exists_and_left, Option.bind_some, Option.bind_eq_bind, Option.pure_def, wipeR, restR, keepD, Tv.d.injEq, Tv.own.injEq, PyData.int.injEq, PyData.bool.injEq, PyData.tuple.injEq, PyData.list.injEq, PyData.str.injEq, List.cons.injEq, and_true, if_tt, if_ff, Option.bind_none, Option.getD_none, Option.getD_some, Int.sub_zero, Int.zero_add, and_assoc, true_and, exists_const, Nat.reduceAdd, Nat.reduceLT, Nat.reduceSub, Nat.zero_add]
  refine ⟨fun j acc ρ => acc = ((((playsL ss).take j).filter (packIs (p : Nat))).map sideD).map Tv.d ∧ ρ = [some (.d (planD pr pk ss)), some (.d (.int (p : Nat))), none, none, none, none, none, none, none, none, none, none, none], ⟨rfl, rfl⟩, ?_, ?_⟩
  · rintro j y acc ρ2 hy ⟨rfl, rfl⟩
    have hj := (List.getElem?_eq_some_iff.mp hy).1
    have hfl := List.length_filter_le (packIs (p : Nat)) ((playsL ss).take j)
    rw [List.length_take] at hfl
    obtain ⟨q, n, e, rfl, b1, b2, b3, b4, b5, b6⟩ := hall y (List.mem_of_getElem? hy)
    simp only [tripD, List.length_map, r_nil, r_cons, r_set, r_unp, r_par, r_ix1, r_ix2, r_ixp, r_ixe, r_app, r_ext, r_expr, r_ret, r_retv, r_retN, r_if, r_for, r_while, r_pass, r_brk, r_cont, q_sim, q_bin, q_neg, q_cmp, q_isN, q_notN, q_chain, q_and, q_or, q_and1, q_and2, q_or1, q_or2, q_not, q_ite, q_tup, q_lst, q_idx, q_slice, q_rev, q_blt1, q_bltv, q_blt2, q_sortset, q_lrng, q_lc, q_pop, q_index, q_es0, q_es1, q_o0, q_o1, q_c0, q_c1, q_seq, q_rng, q_enum, q_zip, g_name, g_tup, g_t0, g_t1, o_add, o_sub, o_mul, o_fdiv, o_mod, o_pow, f_d, f_nil, c_lt, c_le, c_gt, c_ge, c_eq, c_ne, at0, at1, at2, ix0, ix1, ix2, v_var, v_int, v_str, v_bl, v_non, v_glob, v_add, v_sub, v_neg, v_idx, v_len, onV_d, onV_scr, onW_d, onW_scr, onW_own, simR, sv, frzT, E.sim?, E.var?, SE.var?, Tv.item, Tv.len, PyData.itemsOf, List.map_cons, List.map_nil, List.replicate, List.cons_append, List.nil_append, List.length_cons, List.length_nil, List.set_cons_zero, List.set_cons_succ, List.getElem?_cons_zero, List.getElem?_cons_succ, Option.join_some, Option.some.injEq, Option.map_some, exists_eq', exists_eq, exists_eq_left', exists_eq_left, exists_and_left, Option.bind_some, Option.bind_eq_bind, Option.pure_def, wipeR, restR, keepD, Tv.d.injEq, Tv.own.injEq, PyData.int.injEq, PyData.bool.injEq, PyData.tuple.injEq, PyData.list.injEq, PyData.str.injEq, List.cons.injEq, and_true, if_tt, if_ff, Option.bind_none, Option.getD_none, Option.getD_some, Int.sub_zero, Int.zero_add, and_assoc, true_and, exists_const, Nat.reduceAdd, Nat.reduceLT, Nat.reduceSub, Nat.zero_add]
    refine ⟨fun hb => ⟨_, fz2, small64 (by omega), ?_⟩, fun hb => ?_⟩
    · rw [filter_st (packIs (p : Nat)) hy hb, List.map_append, List.map_append]
      rfl
    · rw [filter_sf (packIs (p : Nat)) hy hb]
  rintro acc ρ2 ⟨rfl, rfl⟩
  rw [List.take_length, hside]
  generalize ownP (playsL ss) p = own at hown hone hq ⊢
  simp only [r_nil, r_set, r_unp, r_par, r_ix1, r_ix2, r_ixp, r_ixe, r_app, r_ext, r_expr, r_ret, r_retv, r_retN, r_if, r_for, r_while, r_pass, r_brk, r_cont, q_sim, q_bin, q_neg, q_cmp, q_isN, q_notN, q_chain, q_and, q_or, q_and1, q_and2, q_or1, q_or2, q_not, q_ite, q_tup, q_lst, q_idx, q_slice, q_rev, q_blt1, q_bltv, q_blt2, q_sortset, q_lrng, q_lc, q_pop, q_index, q_es0, q_es1, q_o0, q_o1, q_c0, q_c1, q_seq, q_rng, q_enum, q_zip, g_name, g_tup, g_t0, g_t1, o_add, o_sub, o_mul, o_fdiv, o_mod, o_pow, f_d, f_nil, c_lt, c_le, c_gt, c_ge, c_eq, c_ne, at0, at1, at2, ix0, ix1, ix2, v_var, v_int, v_str, v_bl, v_non, v_glob, v_add, v_sub, v_neg, v_idx, v_len, onV_d, onV_scr, onW_d, onW_scr, onW_own, simR, sv, frzT, E.sim?, E.var?, SE.var?, Tv.item, Tv.len, PyData.itemsOf, List.map_cons, List.map_nil, List.replicate, List.cons_append, List.nil_append, List.length_cons, List.length_nil, List.set_cons_zero, List.set_cons_succ, List.getElem?_cons_zero, List.getElem?_cons_succ, Option.join_some, Option.some.injEq, Option.map_some, exists_eq', exists_eq, exists_eq_left', exists_eq_left, exists_and_left, Option.bind_some, Option.bind_eq_bind, Option.pure_def, wipeR, restR, keepD, Tv.d.injEq, Tv.own.injEq, PyData.int.injEq, PyData.bool.injEq, PyData.tuple.injEq, PyData.list.injEq, PyData.str.injEq, List.cons.injEq, and_true, if_tt, if_ff, Option.bind_none, Option.getD_none, Option.getD_some, Int.sub_zero, Int.zero_add, and_assoc, true_and, exists_const, Nat.reduceAdd, Nat.reduceLT, Nat.reduceSub, Nat.zero_add]
  rw [r_cons]
  simp only [planD, at0, r_nil, r_set, r_unp, r_par, r_ix1, r_ix2, r_ixp, r_ixe, r_app, r_ext, r_expr, r_ret, r_retv, r_retN, r_if, r_for, r_while, r_pass, r_brk, r_cont, q_sim, q_bin, q_neg, q_cmp, q_isN, q_notN, q_chain, q_and, q_or, q_and1, q_and2, q_or1, q_or2, q_not, q_ite, q_tup, q_lst, q_idx, q_slice, q_rev, q_blt1, q_bltv, q_blt2, q_sortset, q_lrng, q_lc, q_pop, q_index, q_es0, q_es1, q_o0, q_o1, q_c0, q_c1, q_seq, q_rng, q_enum, q_zip, g_name, g_tup, g_t0, g_t1, o_add, o_sub, o_mul, o_fdiv, o_mod, o_pow, f_d, f_nil, c_lt, c_le, c_gt, c_ge, c_eq, c_ne, at0, at1, at2, ix0, ix1, ix2, v_var, v_int, v_str, v_bl, v_non, v_glob, v_add, v_sub, v_neg, v_idx, v_len, onV_d, onV_scr, onW_d, onW_scr, onW_own, simR, sv, frzT, E.sim?, E.var?, SE.var?, Tv.item, Tv.len, PyData.itemsOf, List.map_cons, List.map_nil, List.replicate, List.cons_append, List.nil_append, List.length_cons, List.length_nil, List.set_cons_zero, List.set_cons_succ, List.getElem?_cons_zero, List.getElem?_cons_succ, Option.join_some, Option.some.injEq, Option.map_some, exists_eq', exists_eq, exists_eq_left', exists_eq_left, exists_and_left, Option.bind_some, Option.bind_eq_bind, Option.pure_def, wipeR, restR, keepD, Tv.d.injEq, Tv.own.injEq, PyData.int.injEq, PyData.bool.injEq, PyData.tuple.injEq, PyData.list.injEq, PyData.str.injEq, List.cons.injEq, and_true, if_tt, if_ff, Option.bind_none, Option.getD_none, Option.getD_some, Int.sub_zero, Int.zero_add, and_assoc, true_and, exists_const, Nat.reduceAdd, Nat.reduceLT, Nat.reduceSub, Nat.zero_add]
  refine ⟨by decide, by decide, by omega, by omega, fun j acc ρ => acc = (List.range j).map (fun _ => rowT pr.toNat fun _ => 0) ∧ ρ = [some (.d (planD pr pk ss)), some (.d (.int (p : Nat))), some (.own ((own.map pairD).map .d)), none, none, none, none, none, none, none, none, none, none], ⟨rfl, rfl⟩, ?_, ?_⟩
  · rintro j y acc ρ2 hy ⟨rfl, rfl⟩
    have hj := (List.getElem?_eq_some_iff.mp hy).1
    simp only [List.length_map, List.length_range] at hj
    simp only [planD, at0, List.length_map, List.length_range, r_nil, r_cons, r_set, r_unp, r_par, r_ix1, r_ix2, r_ixp, r_ixe, r_app, r_ext, r_expr, r_ret, r_retv, r_retN, r_if, r_for, r_while, r_pass, r_brk, r_cont, q_sim, q_bin, q_neg, q_cmp, q_isN, q_notN, q_chain, q_and, q_or, q_and1, q_and2, q_or1, q_or2, q_not, q_ite, q_tup, q_lst, q_idx, q_slice, q_rev, q_blt1, q_bltv, q_blt2, q_sortset, q_lrng, q_lc, q_pop, q_index, q_es0, q_es1, q_o0, q_o1, q_c0, q_c1, q_seq, q_rng, q_enum, q_zip, g_name, g_tup, g_t0, g_t1, o_add, o_sub, o_mul, o_fdiv, o_mod, o_pow, f_d, f_nil, c_lt, c_le, c_gt, c_ge, c_eq, c_ne, at0, at1, at2, ix0, ix1, ix2, v_var, v_int, v_str, v_bl, v_non, v_glob, v_add, v_sub, v_neg, v_idx, v_len, onV_d, onV_scr, onW_d, onW_scr, onW_own, simR, sv, frzT, E.sim?, E.var?, SE.var?, Tv.item, Tv.len, PyData.itemsOf, List.map_cons, List.map_nil, List.replicate, List.cons_append, List.nil_append, List.length_cons, List.length_nil, List.set_cons_zero, List.set_cons_succ, List.getElem?_cons_zero, List.getElem?_cons_succ, Option.join_some, Option.some.injEq, Option.map_some, exists_eq', exists_eq, exists_eq_left', exists_eq_left, exists_and_left, Option.bind_some, Option.bind_eq_bind, Option.pure_def, wipeR, restR, keepD, Tv.d.injEq, Tv.own.injEq, PyData.int.injEq, PyData.bool.injEq, PyData.tuple.injEq, PyData.list.injEq, PyData.str.injEq, List.cons.injEq, and_true, if_tt, if_ff, Option.bind_none, Option.getD_none, Option.getD_some, Int.sub_zero, Int.zero_add, and_assoc, true_and, exists_const, Nat.reduceAdd, Nat.reduceLT, Nat.reduceSub, Nat.zero_add]
    refine ⟨fun _ => ⟨[.int 0], fo1, by omega, by omega, by rw [sizeLine_eq]; exact Nat.le_trans (Nat.mul_le_mul_left 1 (show pr.toNat ≤ 10 by omega)) (by decide), small64 (by omega), ?_⟩, fun z => (nomatch z)⟩
    rw [zero_row, List.range_succ, List.map_append]
    rfl
  rintro acc ρ2 ⟨rfl, rfl⟩
  simp only [List.length_map, List.length_range, r_nil, r_set, r_unp, r_par, r_ix1, r_ix2, r_ixp, r_ixe, r_app, r_ext, r_expr, r_ret, r_retv, r_retN, r_if, r_for, r_while, r_pass, r_brk, r_cont, q_sim, q_bin, q_neg, q_cmp, q_isN, q_notN, q_chain, q_and, q_or, q_and1, q_and2, q_or1, q_or2, q_not, q_ite, q_tup, q_lst, q_idx, q_slice, q_rev, q_blt1, q_bltv, q_blt2, q_sortset, q_lrng, q_lc, q_pop, q_index, q_es0, q_es1, q_o0, q_o1, q_c0, q_c1, q_seq, q_rng, q_enum, q_zip, g_name, g_tup, g_t0, g_t1, o_add, o_sub, o_mul, o_fdiv, o_mod, o_pow, f_d, f_nil, c_lt, c_le, c_gt, c_ge, c_eq, c_ne, at0, at1, at2, ix0, ix1, ix2, v_var, v_int, v_str, v_bl, v_non, v_glob, v_add, v_sub, v_neg, v_idx, v_len, onV_d, onV_scr, onW_d, onW_scr, onW_own, simR, sv, frzT, E.sim?, E.var?, SE.var?, Tv.item, Tv.len, PyData.itemsOf, List.map_cons, List.map_nil, List.replicate, List.cons_append, List.nil_append, List.length_cons, List.length_nil, List.set_cons_zero, List.set_cons_succ, List.getElem?_cons_zero, List.getElem?_cons_succ, Option.join_some, Option.some.injEq, Option.map_some, exists_eq', exists_eq, exists_eq_left', exists_eq_left, exists_and_left, Option.bind_some, Option.bind_eq_bind, Option.pure_def, wipeR, restR, keepD, Tv.d.injEq, Tv.own.injEq, PyData.int.injEq, PyData.bool.injEq, PyData.tuple.injEq, PyData.list.injEq, PyData.str.injEq, List.cons.injEq, and_true, if_tt, if_ff, Option.bind_none, Option.getD_none, Option.getD_some, Int.sub_zero, Int.zero_add, and_assoc, true_and, exists_const, Nat.reduceAdd, Nat.reduceLT, Nat.reduceSub, Nat.zero_add]
  have hz : ((List.range pr.toNat).map fun _ => rowT pr.toNat fun _ => (0 : Int)) = matL pr.toNat (partF own 0 0) := mat_ext (f := fun _ _ => 0) fun a b _ _ => by
    unfold partF
    rw [if_neg (by omega)]
  rw [hz, r_cons]
  simp only [planD, at0, r_nil, r_set, r_unp, r_par, r_ix1, r_ix2, r_ixp, r_ixe, r_app, r_ext, r_expr, r_ret, r_retv, r_retN, r_if, r_for, r_while, r_pass, r_brk, r_cont, q_sim, q_bin, q_neg, q_cmp, q_isN, q_notN, q_chain, q_and, q_or, q_and1, q_and2, q_or1, q_or2, q_not, q_ite, q_tup, q_lst, q_idx, q_slice, q_rev, q_blt1, q_bltv, q_blt2, q_sortset, q_lrng, q_lc, q_pop, q_index, q_es0, q_es1, q_o0, q_o1, q_c0, q_c1, q_seq, q_rng, q_enum, q_zip, g_name, g_tup, g_t0, g_t1, o_add, o_sub, o_mul, o_fdiv, o_mod, o_pow, f_d, f_nil, c_lt, c_le, c_gt, c_ge, c_eq, c_ne, at0, at1, at2, ix0, ix1, ix2, v_var, v_int, v_str, v_bl, v_non, v_glob, v_add, v_sub, v_neg, v_idx, v_len, onV_d, onV_scr, onW_d, onW_scr, onW_own, simR, sv, frzT, E.sim?, E.var?, SE.var?, Tv.item, Tv.len, PyData.itemsOf, List.map_cons, List.map_nil, List.replicate, List.cons_append, List.nil_append, List.length_cons, List.length_nil, List.set_cons_zero, List.set_cons_succ, List.getElem?_cons_zero, List.getElem?_cons_succ, Option.join_some, Option.some.injEq, Option.map_some, exists_eq', exists_eq, exists_eq_left', exists_eq_left, exists_and_left, Option.bind_some, Option.bind_eq_bind, Option.pure_def, wipeR, restR, keepD, Tv.d.injEq, Tv.own.injEq, PyData.int.injEq, PyData.bool.injEq, PyData.tuple.injEq, PyData.list.injEq, PyData.str.injEq, List.cons.injEq, and_true, if_tt, if_ff, Option.bind_none, Option.getD_none, Option.getD_some, Int.sub_zero, Int.zero_add, and_assoc, true_and, exists_const, Nat.reduceAdd, Nat.reduceLT, Nat.reduceSub, Nat.zero_add]
  refine ⟨by decide, by decide, by omega, by omega, fun i ρ => ∃ o2, plL o2 own ∧ ρ = [some (.d (planD pr pk ss)), some (.d (.int (p : Nat))), some o2, some (.own (matL pr.toNat (partF own i 0))), none, none, none, none, none, none, none, none, none], ⟨_, .inl rfl, rfl⟩, ?_, ?_⟩
  · rintro i x ρ2 hx ⟨o2, ho, rfl⟩
    have hi := (List.getElem?_eq_some_iff.mp hx).1
    simp only [List.length_map, List.length_range] at hi
    simp only [List.getElem?_map, List.getElem?_range hi, Option.map_some, Option.some.injEq] at hx
    subst hx
    simp only [r_nil, r_set, r_unp, r_par, r_ix1, r_ix2, r_ixp, r_ixe, r_app, r_ext, r_expr, r_ret, r_retv, r_retN, r_if, r_for, r_while, r_pass, r_brk, r_cont, q_sim, q_bin, q_neg, q_cmp, q_isN, q_notN, q_chain, q_and, q_or, q_and1, q_and2, q_or1, q_or2, q_not, q_ite, q_tup, q_lst, q_idx, q_slice, q_rev, q_blt1, q_bltv, q_blt2, q_sortset, q_lrng, q_lc, q_pop, q_index, q_es0, q_es1, q_o0, q_o1, q_c0, q_c1, q_seq, q_rng, q_enum, q_zip, g_name, g_tup, g_t0, g_t1, o_add, o_sub, o_mul, o_fdiv, o_mod, o_pow, f_d, f_nil, c_lt, c_le, c_gt, c_ge, c_eq, c_ne, at0, at1, at2, ix0, ix1, ix2, v_var, v_int, v_str, v_bl, v_non, v_glob, v_add, v_sub, v_neg, v_idx, v_len, onV_d, onV_scr, onW_d, onW_scr, onW_own, simR, sv, frzT, E.sim?, E.var?, SE.var?, Tv.item, Tv.len, PyData.itemsOf, List.map_cons, List.map_nil, List.replicate, List.cons_append, List.nil_append, List.length_cons, List.length_nil, List.set_cons_zero, List.set_cons_succ, List.getElem?_cons_zero, List.getElem?_cons_succ, Option.join_some, Option.some.injEq, Option.map_some, exists_eq', exists_eq, exists_eq_left', exists_eq_left, exists_and_left, Option.bind_some, Option.bind_eq_bind, Option.pure_def, wipeR, restR, keepD, Tv.d.injEq, Tv.own.injEq, PyData.int.injEq, PyData.bool.injEq, PyData.tuple.injEq, PyData.list.injEq, PyData.str.injEq, List.cons.injEq, and_true, if_tt, if_ff, Option.bind_none, Option.getD_none, Option.getD_some, Int.sub_zero, Int.zero_add, and_assoc, true_and, exists_const, Nat.reduceAdd, Nat.reduceLT, Nat.reduceSub, Nat.zero_add]
    rw [r_cons]
    simp only [planD, at0, r_nil, r_set, r_unp, r_par, r_ix1, r_ix2, r_ixp, r_ixe, r_app, r_ext, r_expr, r_ret, r_retv, r_retN, r_if, r_for, r_while, r_pass, r_brk, r_cont, q_sim, q_bin, q_neg, q_cmp, q_isN, q_notN, q_chain, q_and, q_or, q_and1, q_and2, q_or1, q_or2, q_not, q_ite, q_tup, q_lst, q_idx, q_slice, q_rev, q_blt1, q_bltv, q_blt2, q_sortset, q_lrng, q_lc, q_pop, q_index, q_es0, q_es1, q_o0, q_o1, q_c0, q_c1, q_seq, q_rng, q_enum, q_zip, g_name, g_tup, g_t0, g_t1, o_add, o_sub, o_mul, o_fdiv, o_mod, o_pow, f_d, f_nil, c_lt, c_le, c_gt, c_ge, c_eq, c_ne, at0, at1, at2, ix0, ix1, ix2, v_var, v_int, v_str, v_bl, v_non, v_glob, v_add, v_sub, v_neg, v_idx, v_len, onV_d, onV_scr, onW_d, onW_scr, onW_own, simR, sv, frzT, E.sim?, E.var?, SE.var?, Tv.item, Tv.len, PyData.itemsOf, List.map_cons, List.map_nil, List.replicate, List.cons_append, List.nil_append, List.length_cons, List.length_nil, List.set_cons_zero, List.set_cons_succ, List.getElem?_cons_zero, List.getElem?_cons_succ, Option.join_some, Option.some.injEq, Option.map_some, exists_eq', exists_eq, exists_eq_left', exists_eq_left, exists_and_left, Option.bind_some, Option.bind_eq_bind, Option.pure_def, wipeR, restR, keepD, Tv.d.injEq, Tv.own.injEq, PyData.int.injEq, PyData.bool.injEq, PyData.tuple.injEq, PyData.list.injEq, PyData.str.injEq, List.cons.injEq, and_true, if_tt, if_ff, Option.bind_none, Option.getD_none, Option.getD_some, Int.sub_zero, Int.zero_add, and_assoc, true_and, exists_const, Nat.reduceAdd, Nat.reduceLT, Nat.reduceSub, Nat.zero_add]
    refine ⟨by decide, by decide, by omega, by omega, fun j ρ => ∃ o2, plL o2 own ∧ ρ = [some (.d (planD pr pk ss)), some (.d (.int (p : Nat))), some o2, some (.own (matL pr.toNat (partF own i j))), some (.d (.int (i : Nat))), none, none, none, none, none, none, none, none], ⟨o2, ho, rfl⟩, ?_, ?_⟩
    · rintro j x ρ2 hx ⟨o2, ho, rfl⟩
      have hj := (List.getElem?_eq_some_iff.mp hx).1
      simp only [List.length_map, List.length_range] at hj
      simp only [List.getElem?_map, List.getElem?_range hj, Option.map_some, Option.some.injEq] at hx
      subst hx
      have hs := part_succ own i j
      simp only [r_nil, r_set, r_unp, r_par, r_ix1, r_ix2, r_ixp, r_ixe, r_app, r_ext, r_expr, r_ret, r_retv, r_retN, r_if, r_for, r_while, r_pass, r_brk, r_cont, q_sim, q_bin, q_neg, q_cmp, q_isN, q_notN, q_chain, q_and, q_or, q_and1, q_and2, q_or1, q_or2, q_not, q_ite, q_tup, q_lst, q_idx, q_slice, q_rev, q_blt1, q_bltv, q_blt2, q_sortset, q_lrng, q_lc, q_pop, q_index, q_es0, q_es1, q_o0, q_o1, q_c0, q_c1, q_seq, q_rng, q_enum, q_zip, g_name, g_tup, g_t0, g_t1, o_add, o_sub, o_mul, o_fdiv, o_mod, o_pow, f_d, f_nil, c_lt, c_le, c_gt, c_ge, c_eq, c_ne, at0, at1, at2, ix0, ix1, ix2, v_var, v_int, v_str, v_bl, v_non, v_glob, v_add, v_sub, v_neg, v_idx, v_len, onV_d, onV_scr, onW_d, onW_scr, onW_own, simR, sv, frzT, E.sim?, E.var?, SE.var?, Tv.item, Tv.len, PyData.itemsOf, List.map_cons, List.map_nil, List.replicate, List.cons_append, List.nil_append, List.length_cons, List.length_nil, List.set_cons_zero, List.set_cons_succ, List.getElem?_cons_zero, List.getElem?_cons_succ, Option.join_some, Option.some.injEq, Option.map_some, exists_eq', exists_eq, exists_eq_left', exists_eq_left, exists_and_left, Option.bind_some, Option.bind_eq_bind, Option.pure_def, wipeR, restR, keepD, Tv.d.injEq, Tv.own.injEq, PyData.int.injEq, PyData.bool.injEq, PyData.tuple.injEq, PyData.list.injEq, PyData.str.injEq, List.cons.injEq, and_true, if_tt, if_ff, Option.bind_none, Option.getD_none, Option.getD_some, Int.sub_zero, Int.zero_add, and_assoc, true_and, exists_const, Nat.reduceAdd, Nat.reduceLT, Nat.reduceSub, Nat.zero_add]
      rw [r_cons]
      simp only [r_nil, r_set, r_unp, r_par, r_ix1, r_ix2, r_ixp, r_ixe, r_app, r_ext, r_expr, r_ret, r_retv, r_retN, r_if, r_for, r_while, r_pass, r_brk, r_cont, q_sim, q_bin, q_neg, q_cmp, q_isN, q_notN, q_chain, q_and, q_or, q_and1, q_and2, q_or1, q_or2, q_not, q_ite, q_tup, q_lst, q_idx, q_slice, q_rev, q_blt1, q_bltv, q_blt2, q_sortset, q_lrng, q_lc, q_pop, q_index, q_es0, q_es1, q_o0, q_o1, q_c0, q_c1, q_seq, q_rng, q_enum, q_zip, g_name, g_tup, g_t0, g_t1, o_add, o_sub, o_mul, o_fdiv, o_mod, o_pow, f_d, f_nil, c_lt, c_le, c_gt, c_ge, c_eq, c_ne, at0, at1, at2, ix0, ix1, ix2, v_var, v_int, v_str, v_bl, v_non, v_glob, v_add, v_sub, v_neg, v_idx, v_len, onV_d, onV_scr, onW_d, onW_scr, onW_own, simR, sv, frzT, E.sim?, E.var?, SE.var?, Tv.item, Tv.len, PyData.itemsOf, List.map_cons, List.map_nil, List.replicate, List.cons_append, List.nil_append, List.length_cons, List.length_nil, List.set_cons_zero, List.set_cons_succ, List.getElem?_cons_zero, List.getElem?_cons_succ, Option.join_some, Option.some.injEq, Option.map_some, exists_eq', exists_eq, exists_eq_left', exists_eq_left, exists_and_left, Option.bind_some, Option.bind_eq_bind, Option.pure_def, wipeR, restR, keepD, Tv.d.injEq, Tv.own.injEq, PyData.int.injEq, PyData.bool.injEq, PyData.tuple.injEq, PyData.list.injEq, PyData.str.injEq, List.cons.injEq, and_true, if_tt, if_ff, Option.bind_none, Option.getD_none, Option.getD_some, Int.sub_zero, Int.zero_add, and_assoc, true_and, exists_const, Nat.reduceAdd, Nat.reduceLT, Nat.reduceSub, Nat.zero_add]
      refine if_l (fun hne => ?_) fun heq => ?_
      · have hij : i ≠ j := fun z => by subst z; simp at hne
        refine ok_packT1 ho (by omega) hown (by omega) (by omega) hij (part_at own i j) rfl fun x10 x11 f' hf => ?_
        subst hf
        rw [← hs]
        exact ⟨_, .inr rfl, rfl⟩
      · have hij : i = j := by
          have : ((i : Int) == (j : Int)) = true := by simpa using heq
          have := eq_of_beq this
          omega
        subst hij
        rw [part_same] at hs
        rw [hs]
        exact ⟨_, ho, rfl, rfl⟩
    · rintro ρ2 ⟨o2, ho, rfl⟩
      simp only [List.length_map, List.length_range, r_nil, r_cons, r_set, r_unp, r_par, r_ix1, r_ix2, r_ixp, r_ixe, r_app, r_ext, r_expr, r_ret, r_retv, r_retN, r_if, r_for, r_while, r_pass, r_brk, r_cont, q_sim, q_bin, q_neg, q_cmp, q_isN, q_notN, q_chain, q_and, q_or, q_and1, q_and2, q_or1, q_or2, q_not, q_ite, q_tup, q_lst, q_idx, q_slice, q_rev, q_blt1, q_bltv, q_blt2, q_sortset, q_lrng, q_lc, q_pop, q_index, q_es0, q_es1, q_o0, q_o1, q_c0, q_c1, q_seq, q_rng, q_enum, q_zip, g_name, g_tup, g_t0, g_t1, o_add, o_sub, o_mul, o_fdiv, o_mod, o_pow, f_d, f_nil, c_lt, c_le, c_gt, c_ge, c_eq, c_ne, at0, at1, at2, ix0, ix1, ix2, v_var, v_int, v_str, v_bl, v_non, v_glob, v_add, v_sub, v_neg, v_idx, v_len, onV_d, onV_scr, onW_d, onW_scr, onW_own, simR, sv, frzT, E.sim?, E.var?, SE.var?, Tv.item, Tv.len, PyData.itemsOf, List.map_cons, List.map_nil, List.replicate, List.cons_append, List.nil_append, List.length_cons, List.length_nil, List.set_cons_zero, List.set_cons_succ, List.getElem?_cons_zero, List.getElem?_cons_succ, Option.join_some, Option.some.injEq, Option.map_some, exists_eq', exists_eq, exists_eq_left', exists_eq_left, exists_and_left, Option.bind_some, Option.bind_eq_bind, Option.pure_def, wipeR, restR, keepD, Tv.d.injEq, Tv.own.injEq, PyData.int.injEq, PyData.bool.injEq, PyData.tuple.injEq, PyData.list.injEq, PyData.str.injEq, List.cons.injEq, and_true, if_tt, if_ff, Option.bind_none, Option.getD_none, Option.getD_some, Int.sub_zero, Int.zero_add, and_assoc, true_and, exists_const, Nat.reduceAdd, Nat.reduceLT, Nat.reduceSub, Nat.zero_add]
      rw [← part_row own i pr.toNat]
      exact ⟨_, ho, rfl, rfl, rfl⟩
  · rintro ρ2 ⟨o2, ho, rfl⟩
    simp only [List.length_map, List.length_range, r_nil, r_cons, r_set, r_unp, r_par, r_ix1, r_ix2, r_ixp, r_ixe, r_app, r_ext, r_expr, r_ret, r_retv, r_retN, r_if, r_for, r_while, r_pass, r_brk, r_cont, q_sim, q_bin, q_neg, q_cmp, q_isN, q_notN, q_chain, q_and, q_or, q_and1, q_and2, q_or1, q_or2, q_not, q_ite, q_tup, q_lst, q_idx, q_slice, q_rev, q_blt1, q_bltv, q_blt2, q_sortset, q_lrng, q_lc, q_pop, q_index, q_es0, q_es1, q_o0, q_o1, q_c0, q_c1, q_seq, q_rng, q_enum, q_zip, g_name, g_tup, g_t0, g_t1, o_add, o_sub, o_mul, o_fdiv, o_mod, o_pow, f_d, f_nil, c_lt, c_le, c_gt, c_ge, c_eq, c_ne, at0, at1, at2, ix0, ix1, ix2, v_var, v_int, v_str, v_bl, v_non, v_glob, v_add, v_sub, v_neg, v_idx, v_len, onV_d, onV_scr, onW_d, onW_scr, onW_own, simR, sv, frzT, E.sim?, E.var?, SE.var?, Tv.item, Tv.len, PyData.itemsOf, List.map_cons, List.map_nil, List.replicate, List.cons_append, List.nil_append, List.length_cons, List.length_nil, List.set_cons_zero, List.set_cons_succ, List.getElem?_cons_zero, List.getElem?_cons_succ, Option.join_some, Option.some.injEq, Option.map_some, exists_eq', exists_eq, exists_eq_left', exists_eq_left, exists_and_left, Option.bind_some, Option.bind_eq_bind, Option.pure_def, wipeR, restR, keepD, Tv.d.injEq, Tv.own.injEq, PyData.int.injEq, PyData.bool.injEq, PyData.tuple.injEq, PyData.list.injEq, PyData.str.injEq, List.cons.injEq, and_true, if_tt, if_ff, Option.bind_none, Option.getD_none, Option.getD_some, Int.sub_zero, Int.zero_add, and_assoc, true_and, exists_const, Nat.reduceAdd, Nat.reduceLT, Nat.reduceSub, Nat.zero_add]
    have e : matL pr.toNat (partF own pr.toNat 0) = matL pr.toNat (cell own) := mat_ext fun a b ha _ => by
      unfold partF
      rw [if_pos (.inl ha), law_cell hone]
    rw [e]
    exact hq _
def fePackTable : FE := ⟨["_law_plan_here", "_law_pack"], [], none, spPackTable⟩
def bLawTable : SL := (.cons (.set 1 (.lc (.bin .mul (.lst (.cons (.sim (.int 0)) .nil)) (.sim (.idx (.var 0) (.int 0)))) (.name 3) (.rng .non (.sim (.idx (.var 0) (.int 0)))) .non [3]))
  (.cons (.for_ (.name 2) (.rng .non (.sim (.idx (.var 0) (.int 1))))
  (.cons (.set 1 (.lc (.lc (.bin .add (.sim (.var 6)) (.sim (.var 7))) (.tup (.cons (.name 6) (.cons (.name 7) .nil))) (.zip (.sim (.var 4)) (.sim (.var 5))) .non [6, 7]) (.tup (.cons (.name 4) (.cons (.name 5) .nil))) (.zip (.sim (.var 1)) (.call "_law_pack_table" (.cons (.sim (.var 0)) (.cons (.sim (.var 2)) .nil)))) .non [4, 5]))
  .nil)
  [2])
  (.cons (.retv 1)
  .nil)))
def spLawTable : FS := fun xs Q => ∃ (pr pk : Int) (ss : List PyData), xs = [.d (planD pr pk ss)] ∧ PlanOk pr pk ss ∧ ∀ rest, Q (.own (matL pr.toNat (tabK (playsL ss) pk.toNat))) rest
theorem ok_lawTable {Γ : Gam} {Φ : Phi} (hT : Φ "_law_pack_table" = some fePackTable) : ∀ xs Q, spLawTable xs Q → fsOf Γ Φ 1 8 bLawTable xs Q := by
  rintro xs Q ⟨pr, pk, ss, rfl, hP, hq⟩
  refine ⟨rfl, ?_⟩
  have hp1 := hP.p1
  have hp2 := hP.p2
  have hk1 := hP.k1
  have hk2 := hP.k2
  rw [bLawTable, r_cons]
  simp only [planD, at0, r_nil, r_set, r_unp, r_par, r_ix1, r_ix2, r_ixp, r_ixe, r_app, r_ext, r_expr, r_ret, r_retv, r_retN, r_if, r_for, r_while, r_pass, r_brk, r_cont, q_sim, q_bin, q_neg, q_cmp, q_isN, q_notN, q_chain, q_and, q_or, q_and1, q_and2, q_or1, q_or2, q_not, q_ite, q_tup, q_lst, q_idx, q_slice, q_rev, q_blt1, q_bltv, q_blt2, q_sortset, q_lrng, q_lc, q_pop, q_index, q_es0, q_es1, q_o0, q_o1, q_c0, q_c1, q_seq, q_rng, q_enum, q_zip, g_name, g_tup, g_t0, g_t1, o_add, o_sub, o_mul, o_fdiv, o_mod, o_pow, f_d, f_nil, c_lt, c_le, c_gt, c_ge, c_eq, c_ne, at0, at1, at2, ix0, ix1, ix2, v_var, v_int, v_str, v_bl, v_non, v_glob, v_add, v_sub, v_neg, v_idx, v_len, onV_d, onV_scr, onW_d, onW_scr, onW_own, simR, sv, frzT, E.sim?, E.var?, SE.var?, Tv.item, Tv.len, PyData.itemsOf, List.map_cons, List.map_nil, List.replicate, List.cons_append, List.nil_append, List.length_cons, List.length_nil, List.set_cons_zero, List.set_cons_succ, List.getElem?_cons_zero, List.getElem?_cons_succ, Option.join_some, Option.some.injEq, Option.map_some, exists_eq', exists_eq, exists_eq_left', exists_eq_left, exists_and_left, Option.bind_some, Option.bind_eq_bind, Option.pure_def, wipeR, restR, keepD, Tv.d.injEq, Tv.own.injEq, PyData.int.injEq, PyData.bool.injEq, PyData.tuple.injEq, PyData.list.injEq, PyData.str.injEq, List.cons.injEq, and_true, if_tt, if_ff, Option.bind_none, Option.getD_none, Option.getD_some, Int.sub_zero, Int.zero_add, and_assoc, true_and, exists_const, Nat.reduceAdd, Nat.reduceLT, Nat.reduceSub, Nat.zero_add]
  refine ⟨by decide, by decide, by omega, by omega, fun j acc ρ => acc = (List.range j).map (fun _ => rowT pr.toNat fun _ => 0) ∧ ρ = [some (.d (planD pr pk ss)), none, none, none, none, none, none, none], ⟨rfl, rfl⟩, ?_, ?_⟩
  · rintro j y acc ρ2 hy ⟨rfl, rfl⟩
    have hj := (List.getElem?_eq_some_iff.mp hy).1
    simp only [List.length_map, List.length_range] at hj
    simp only [planD, at0, List.length_map, List.length_range, r_nil, r_cons, r_set, r_unp, r_par, r_ix1, r_ix2, r_ixp, r_ixe, r_app, r_ext, r_expr, r_ret, r_retv, r_retN, r_if, r_for, r_while, r_pass, r_brk, r_cont, q_sim, q_bin, q_neg, q_cmp, q_isN, q_notN, q_chain, q_and, q_or, q_and1, q_and2, q_or1, q_or2, q_not, q_ite, q_tup, q_lst, q_idx, q_slice, q_rev, q_blt1, q_bltv, q_blt2, q_sortset, q_lrng, q_lc, q_pop, q_index, q_es0, q_es1, q_o0, q_o1, q_c0, q_c1, q_seq, q_rng, q_enum, q_zip, g_name, g_tup, g_t0, g_t1, o_add, o_sub, o_mul, o_fdiv, o_mod, o_pow, f_d, f_nil, c_lt, c_le, c_gt, c_ge, c_eq, c_ne, at0, at1, at2, ix0, ix1, ix2, v_var, v_int, v_str, v_bl, v_non, v_glob, v_add, v_sub, v_neg, v_idx, v_len, onV_d, onV_scr, onW_d, onW_scr, onW_own, simR, sv, frzT, E.sim?, E.var?, SE.var?, Tv.item, Tv.len, PyData.itemsOf, List.map_cons, List.map_nil, List.replicate, List.cons_append, List.nil_append, List.length_cons, List.length_nil, List.set_cons_zero, List.set_cons_succ, List.getElem?_cons_zero, List.getElem?_cons_succ, Option.join_some, Option.some.injEq, Option.map_some, exists_eq', exists_eq, exists_eq_left', exists_eq_left, exists_and_left, Option.bind_some, Option.bind_eq_bind, Option.pure_def, wipeR, restR, keepD, Tv.d.injEq, Tv.own.injEq, PyData.int.injEq, PyData.bool.injEq, PyData.tuple.injEq, PyData.list.injEq, PyData.str.injEq, List.cons.injEq, and_true, if_tt, if_ff, Option.bind_none, Option.getD_none, Option.getD_some, Int.sub_zero, Int.zero_add, and_assoc, true_and, exists_const, Nat.reduceAdd, Nat.reduceLT, Nat.reduceSub, Nat.zero_add]
    refine ⟨fun _ => ⟨[.int 0], fo1, by omega, by omega, by rw [sizeLine_eq]; exact Nat.le_trans (Nat.mul_le_mul_left 1 (show pr.toNat ≤ 10 by omega)) (by decide), small64 (by omega), ?_⟩, fun z => (nomatch z)⟩
    rw [zero_row, List.range_succ, List.map_append]
    rfl
  rintro acc ρ2 ⟨rfl, rfl⟩
  simp only [List.length_map, List.length_range, r_nil, r_set, r_unp, r_par, r_ix1, r_ix2, r_ixp, r_ixe, r_app, r_ext, r_expr, r_ret, r_retv, r_retN, r_if, r_for, r_while, r_pass, r_brk, r_cont, q_sim, q_bin, q_neg, q_cmp, q_isN, q_notN, q_chain, q_and, q_or, q_and1, q_and2, q_or1, q_or2, q_not, q_ite, q_tup, q_lst, q_idx, q_slice, q_rev, q_blt1, q_bltv, q_blt2, q_sortset, q_lrng, q_lc, q_pop, q_index, q_es0, q_es1, q_o0, q_o1, q_c0, q_c1, q_seq, q_rng, q_enum, q_zip, g_name, g_tup, g_t0, g_t1, o_add, o_sub, o_mul, o_fdiv, o_mod, o_pow, f_d, f_nil, c_lt, c_le, c_gt, c_ge, c_eq, c_ne, at0, at1, at2, ix0, ix1, ix2, v_var, v_int, v_str, v_bl, v_non, v_glob, v_add, v_sub, v_neg, v_idx, v_len, onV_d, onV_scr, onW_d, onW_scr, onW_own, simR, sv, frzT, E.sim?, E.var?, SE.var?, Tv.item, Tv.len, PyData.itemsOf, List.map_cons, List.map_nil, List.replicate, List.cons_append, List.nil_append, List.length_cons, List.length_nil, List.set_cons_zero, List.set_cons_succ, List.getElem?_cons_zero, List.getElem?_cons_succ, Option.join_some, Option.some.injEq, Option.map_some, exists_eq', exists_eq, exists_eq_left', exists_eq_left, exists_and_left, Option.bind_some, Option.bind_eq_bind, Option.pure_def, wipeR, restR, keepD, Tv.d.injEq, Tv.own.injEq, PyData.int.injEq, PyData.bool.injEq, PyData.tuple.injEq, PyData.list.injEq, PyData.str.injEq, List.cons.injEq, and_true, if_tt, if_ff, Option.bind_none, Option.getD_none, Option.getD_some, Int.sub_zero, Int.zero_add, and_assoc, true_and, exists_const, Nat.reduceAdd, Nat.reduceLT, Nat.reduceSub, Nat.zero_add]
  have hz : ((List.range pr.toNat).map fun _ => rowT pr.toNat fun _ => (0 : Int)) = matL pr.toNat (tabK (playsL ss) 0) := rfl
  rw [hz, r_cons]
  simp only [planD, at1, r_nil, r_set, r_unp, r_par, r_ix1, r_ix2, r_ixp, r_ixe, r_app, r_ext, r_expr, r_ret, r_retv, r_retN, r_if, r_for, r_while, r_pass, r_brk, r_cont, q_sim, q_bin, q_neg, q_cmp, q_isN, q_notN, q_chain, q_and, q_or, q_and1, q_and2, q_or1, q_or2, q_not, q_ite, q_tup, q_lst, q_idx, q_slice, q_rev, q_blt1, q_bltv, q_blt2, q_sortset, q_lrng, q_lc, q_pop, q_index, q_es0, q_es1, q_o0, q_o1, q_c0, q_c1, q_seq, q_rng, q_enum, q_zip, g_name, g_tup, g_t0, g_t1, o_add, o_sub, o_mul, o_fdiv, o_mod, o_pow, f_d, f_nil, c_lt, c_le, c_gt, c_ge, c_eq, c_ne, at0, at1, at2, ix0, ix1, ix2, v_var, v_int, v_str, v_bl, v_non, v_glob, v_add, v_sub, v_neg, v_idx, v_len, onV_d, onV_scr, onW_d, onW_scr, onW_own, simR, sv, frzT, E.sim?, E.var?, SE.var?, Tv.item, Tv.len, PyData.itemsOf, List.map_cons, List.map_nil, List.replicate, List.cons_append, List.nil_append, List.length_cons, List.length_nil, List.set_cons_zero, List.set_cons_succ, List.getElem?_cons_zero, List.getElem?_cons_succ, Option.join_some, Option.some.injEq, Option.map_some, exists_eq', exists_eq, exists_eq_left', exists_eq_left, exists_and_left, Option.bind_some, Option.bind_eq_bind, Option.pure_def, wipeR, restR, keepD, Tv.d.injEq, Tv.own.injEq, PyData.int.injEq, PyData.bool.injEq, PyData.tuple.injEq, PyData.list.injEq, PyData.str.injEq, List.cons.injEq, and_true, if_tt, if_ff, Option.bind_none, Option.getD_none, Option.getD_some, Int.sub_zero, Int.zero_add, and_assoc, true_and, exists_const, Nat.reduceAdd, Nat.reduceLT, Nat.reduceSub, Nat.zero_add]
  refine ⟨by decide, by decide, by omega, by omega, fun k ρ => ρ = [some (.d (planD pr pk ss)), some (.own (matL pr.toNat (tabK (playsL ss) k))), none, none, none, none, none, none], rfl, ?_, ?_⟩
  · rintro k x ρ2 hx rfl
    have hk := (List.getElem?_eq_some_iff.mp hx).1
    simp only [List.length_map, List.length_range] at hk
    simp only [List.getElem?_map, List.getElem?_range hk, Option.map_some, Option.some.injEq] at hx
    subst hx
    simp only [r_nil, r_set, r_unp, r_par, r_ix1, r_ix2, r_ixp, r_ixe, r_app, r_ext, r_expr, r_ret, r_retv, r_retN, r_if, r_for, r_while, r_pass, r_brk, r_cont, q_sim, q_bin, q_neg, q_cmp, q_isN, q_notN, q_chain, q_and, q_or, q_and1, q_and2, q_or1, q_or2, q_not, q_ite, q_tup, q_lst, q_idx, q_slice, q_rev, q_blt1, q_bltv, q_blt2, q_sortset, q_lrng, q_lc, q_pop, q_index, q_es0, q_es1, q_o0, q_o1, q_c0, q_c1, q_seq, q_rng, q_enum, q_zip, g_name, g_tup, g_t0, g_t1, o_add, o_sub, o_mul, o_fdiv, o_mod, o_pow, f_d, f_nil, c_lt, c_le, c_gt, c_ge, c_eq, c_ne, at0, at1, at2, ix0, ix1, ix2, v_var, v_int, v_str, v_bl, v_non, v_glob, v_add, v_sub, v_neg, v_idx, v_len, onV_d, onV_scr, onW_d, onW_scr, onW_own, simR, sv, frzT, E.sim?, E.var?, SE.var?, Tv.item, Tv.len, PyData.itemsOf, List.map_cons, List.map_nil, List.replicate, List.cons_append, List.nil_append, List.length_cons, List.length_nil, List.set_cons_zero, List.set_cons_succ, List.getElem?_cons_zero, List.getElem?_cons_succ, Option.join_some, Option.some.injEq, Option.map_some, exists_eq', exists_eq, exists_eq_left', exists_eq_left, exists_and_left, Option.bind_some, Option.bind_eq_bind, Option.pure_def, wipeR, restR, keepD, Tv.d.injEq, Tv.own.injEq, PyData.int.injEq, PyData.bool.injEq, PyData.tuple.injEq, PyData.list.injEq, PyData.str.injEq, List.cons.injEq, and_true, if_tt, if_ff, Option.bind_none, Option.getD_none, Option.getD_some, Int.sub_zero, Int.zero_add, and_assoc, true_and, exists_const, Nat.reduceAdd, Nat.reduceLT, Nat.reduceSub, Nat.zero_add]
    rw [r_cons]
    simp only [mat_frz, q_call hT rfl, args22, fePackTable, r_nil, r_set, r_unp, r_par, r_ix1, r_ix2, r_ixp, r_ixe, r_app, r_ext, r_expr, r_ret, r_retv, r_retN, r_if, r_for, r_while, r_pass, r_brk, r_cont, q_sim, q_bin, q_neg, q_cmp, q_isN, q_notN, q_chain, q_and, q_or, q_and1, q_and2, q_or1, q_or2, q_not, q_ite, q_tup, q_lst, q_idx, q_slice, q_rev, q_blt1, q_bltv, q_blt2, q_sortset, q_lrng, q_lc, q_pop, q_index, q_es0, q_es1, q_o0, q_o1, q_c0, q_c1, q_seq, q_rng, q_enum, q_zip, g_name, g_tup, g_t0, g_t1, o_add, o_sub, o_mul, o_fdiv, o_mod, o_pow, f_d, f_nil, c_lt, c_le, c_gt, c_ge, c_eq, c_ne, at0, at1, at2, ix0, ix1, ix2, v_var, v_int, v_str, v_bl, v_non, v_glob, v_add, v_sub, v_neg, v_idx, v_len, onV_d, onV_scr, onW_d, onW_scr, onW_own, simR, sv, frzT, E.sim?, E.var?, SE.var?, Tv.item, Tv.len, PyData.itemsOf, List.map_cons, List.map_nil, List.replicate, List.cons_append, List.nil_append, List.length_cons, List.length_nil, List.set_cons_zero, List.set_cons_succ, List.getElem?_cons_zero, List.getElem?_cons_succ, Option.join_some, Option.some.injEq, Option.map_some, exists_eq', exists_eq, exists_eq_left', exists_eq_left, exists_and_left, Option.bind_some, Option.bind_eq_bind, Option.pure_def, wipeR, restR, keepD, Tv.d.injEq, Tv.own.injEq, PyData.int.injEq, PyData.bool.injEq, PyData.tuple.injEq, PyData.list.injEq, PyData.str.injEq, List.cons.injEq, and_true, if_tt, if_ff, Option.bind_none, Option.getD_none, Option.getD_some, Int.sub_zero, Int.zero_add, and_assoc, true_and, exists_const, Nat.reduceAdd, Nat.reduceLT, Nat.reduceSub, Nat.zero_add]
    refine ⟨pr, pk, ss, k, rfl, hP, fun rest => ?_⟩
    simp only [mat_frz, r_nil, r_set, r_unp, r_par, r_ix1, r_ix2, r_ixp, r_ixe, r_app, r_ext, r_expr, r_ret, r_retv, r_retN, r_if, r_for, r_while, r_pass, r_brk, r_cont, q_sim, q_bin, q_neg, q_cmp, q_isN, q_notN, q_chain, q_and, q_or, q_and1, q_and2, q_or1, q_or2, q_not, q_ite, q_tup, q_lst, q_idx, q_slice, q_rev, q_blt1, q_bltv, q_blt2, q_sortset, q_lrng, q_lc, q_pop, q_index, q_es0, q_es1, q_o0, q_o1, q_c0, q_c1, q_seq, q_rng, q_enum, q_zip, g_name, g_tup, g_t0, g_t1, o_add, o_sub, o_mul, o_fdiv, o_mod, o_pow, f_d, f_nil, c_lt, c_le, c_gt, c_ge, c_eq, c_ne, at0, at1, at2, ix0, ix1, ix2, v_var, v_int, v_str, v_bl, v_non, v_glob, v_add, v_sub, v_neg, v_idx, v_len, onV_d, onV_scr, onW_d, onW_scr, onW_own, simR, sv, frzT, E.sim?, E.var?, SE.var?, Tv.item, Tv.len, PyData.itemsOf, List.map_cons, List.map_nil, List.replicate, List.cons_append, List.nil_append, List.length_cons, List.length_nil, List.set_cons_zero, List.set_cons_succ, List.getElem?_cons_zero, List.getElem?_cons_succ, Option.join_some, Option.some.injEq, Option.map_some, exists_eq', exists_eq, exists_eq_left', exists_eq_left, exists_and_left, Option.bind_some, Option.bind_eq_bind, Option.pure_def, wipeR, restR, keepD, Tv.d.injEq, Tv.own.injEq, PyData.int.injEq, PyData.bool.injEq, PyData.tuple.injEq, PyData.list.injEq, PyData.str.injEq, List.cons.injEq, and_true, if_tt, if_ff, Option.bind_none, Option.getD_none, Option.getD_some, Int.sub_zero, Int.zero_add, and_assoc, true_and, exists_const, Nat.reduceAdd, Nat.reduceLT, Nat.reduceSub, Nat.zero_add]
    have hsum : ∀ a b, tabK (playsL ss) (k + 1) a b = tabK (playsL ss) k a b + cell (ownP (playsL ss) k) a b := fun a b => tab_succ _ _ a b
    generalize tabK (playsL ss) k = F at hsum ⊢
    generalize cell (ownP (playsL ss) k) = G at hsum ⊢
    refine ⟨fun i acc ρ => acc = (List.range i).map (fun i => rowT pr.toNat (tabK (playsL ss) (k + 1) i)) ∧ ρ = [some (.d (planD pr pk ss)), some (.d (.list (matD pr.toNat F))), some (.d (.int (k : Nat))), none, none, none, none, none], ⟨rfl, rfl⟩, ?_, ?_⟩
    · rintro i y acc ρ2 hy ⟨rfl, rfl⟩
      obtain ⟨hi, rfl⟩ := zip_mat hy
      simp only [List.length_map, List.length_range, r_nil, r_cons, r_set, r_unp, r_par, r_ix1, r_ix2, r_ixp, r_ixe, r_app, r_ext, r_expr, r_ret, r_retv, r_retN, r_if, r_for, r_while, r_pass, r_brk, r_cont, q_sim, q_bin, q_neg, q_cmp, q_isN, q_notN, q_chain, q_and, q_or, q_and1, q_and2, q_or1, q_or2, q_not, q_ite, q_tup, q_lst, q_idx, q_slice, q_rev, q_blt1, q_bltv, q_blt2, q_sortset, q_lrng, q_lc, q_pop, q_index, q_es0, q_es1, q_o0, q_o1, q_c0, q_c1, q_seq, q_rng, q_enum, q_zip, g_name, g_tup, g_t0, g_t1, o_add, o_sub, o_mul, o_fdiv, o_mod, o_pow, f_d, f_nil, c_lt, c_le, c_gt, c_ge, c_eq, c_ne, at0, at1, at2, ix0, ix1, ix2, v_var, v_int, v_str, v_bl, v_non, v_glob, v_add, v_sub, v_neg, v_idx, v_len, onV_d, onV_scr, onW_d, onW_scr, onW_own, simR, sv, frzT, E.sim?, E.var?, SE.var?, Tv.item, Tv.len, PyData.itemsOf, List.map_cons, List.map_nil, List.replicate, List.cons_append, List.nil_append, List.length_cons, List.length_nil, List.set_cons_zero, List.set_cons_succ, List.getElem?_cons_zero, List.getElem?_cons_succ, Option.join_some, Option.some.injEq, Option.map_some, exists_eq', exists_eq, exists_eq_left', exists_eq_left, exists_and_left, Option.bind_some, Option.bind_eq_bind, Option.pure_def, wipeR, restR, keepD, Tv.d.injEq, Tv.own.injEq, PyData.int.injEq, PyData.bool.injEq, PyData.tuple.injEq, PyData.list.injEq, PyData.str.injEq, List.cons.injEq, and_true, if_tt, if_ff, Option.bind_none, Option.getD_none, Option.getD_some, Int.sub_zero, Int.zero_add, and_assoc, true_and, exists_const, Nat.reduceAdd, Nat.reduceLT, Nat.reduceSub, Nat.zero_add]
      refine ⟨fun _ => ?_, fun z => (nomatch z)⟩
      refine ⟨fun j acc ρ => acc = (List.range j).map (fun j => Tv.d (.int (tabK (playsL ss) (k + 1) i j))) ∧ ρ = [some (.d (planD pr pk ss)), some (.d (.list (matD pr.toNat F))), some (.d (.int (k : Nat))), none, some (.d (.list (rowD pr.toNat (F i)))), some (.d (.list (rowD pr.toNat (G i)))), none, none], ⟨rfl, rfl⟩, ?_, ?_⟩
      · rintro j y acc ρ2 hy ⟨rfl, rfl⟩
        obtain ⟨hj, rfl⟩ := zip_row hy
        simp only [List.length_map, List.length_range, r_nil, r_cons, r_set, r_unp, r_par, r_ix1, r_ix2, r_ixp, r_ixe, r_app, r_ext, r_expr, r_ret, r_retv, r_retN, r_if, r_for, r_while, r_pass, r_brk, r_cont, q_sim, q_bin, q_neg, q_cmp, q_isN, q_notN, q_chain, q_and, q_or, q_and1, q_and2, q_or1, q_or2, q_not, q_ite, q_tup, q_lst, q_idx, q_slice, q_rev, q_blt1, q_bltv, q_blt2, q_sortset, q_lrng, q_lc, q_pop, q_index, q_es0, q_es1, q_o0, q_o1, q_c0, q_c1, q_seq, q_rng, q_enum, q_zip, g_name, g_tup, g_t0, g_t1, o_add, o_sub, o_mul, o_fdiv, o_mod, o_pow, f_d, f_nil, c_lt, c_le, c_gt, c_ge, c_eq, c_ne, at0, at1, at2, ix0, ix1, ix2, v_var, v_int, v_str, v_bl, v_non, v_glob, v_add, v_sub, v_neg, v_idx, v_len, onV_d, onV_scr, onW_d, onW_scr, onW_own, simR, sv, frzT, E.sim?, E.var?, SE.var?, Tv.item, Tv.len, PyData.itemsOf, List.map_cons, List.map_nil, List.replicate, List.cons_append, List.nil_append, List.length_cons, List.length_nil, List.set_cons_zero, List.set_cons_succ, List.getElem?_cons_zero, List.getElem?_cons_succ, Option.join_some, Option.some.injEq, Option.map_some, exists_eq', exists_eq, exists_eq_left', exists_eq_left, exists_and_left, Option.bind_some, Option.bind_eq_bind, Option.pure_def, wipeR, restR, keepD, Tv.d.injEq, Tv.own.injEq, PyData.int.injEq, PyData.bool.injEq, PyData.tuple.injEq, PyData.list.injEq, PyData.str.injEq, List.cons.injEq, and_true, if_tt, if_ff, Option.bind_none, Option.getD_none, Option.getD_some, Int.sub_zero, Int.zero_add, and_assoc, true_and, exists_const, Nat.reduceAdd, Nat.reduceLT, Nat.reduceSub, Nat.zero_add]
        refine ⟨fun _ => ⟨small64 (by omega), ?_⟩, fun z => (nomatch z)⟩
        rw [List.range_succ, List.map_append, List.map_cons, List.map_nil, hsum]
      · rintro acc ρ2 ⟨rfl, rfl⟩
        rw [zip_row_len]
        simp only [r_nil, r_cons, r_set, r_unp, r_par, r_ix1, r_ix2, r_ixp, r_ixe, r_app, r_ext, r_expr, r_ret, r_retv, r_retN, r_if, r_for, r_while, r_pass, r_brk, r_cont, q_sim, q_bin, q_neg, q_cmp, q_isN, q_notN, q_chain, q_and, q_or, q_and1, q_and2, q_or1, q_or2, q_not, q_ite, q_tup, q_lst, q_idx, q_slice, q_rev, q_blt1, q_bltv, q_blt2, q_sortset, q_lrng, q_lc, q_pop, q_index, q_es0, q_es1, q_o0, q_o1, q_c0, q_c1, q_seq, q_rng, q_enum, q_zip, g_name, g_tup, g_t0, g_t1, o_add, o_sub, o_mul, o_fdiv, o_mod, o_pow, f_d, f_nil, c_lt, c_le, c_gt, c_ge, c_eq, c_ne, at0, at1, at2, ix0, ix1, ix2, v_var, v_int, v_str, v_bl, v_non, v_glob, v_add, v_sub, v_neg, v_idx, v_len, onV_d, onV_scr, onW_d, onW_scr, onW_own, simR, sv, frzT, E.sim?, E.var?, SE.var?, Tv.item, Tv.len, PyData.itemsOf, List.map_cons, List.map_nil, List.replicate, List.cons_append, List.nil_append, List.length_cons, List.length_nil, List.set_cons_zero, List.set_cons_succ, List.getElem?_cons_zero, List.getElem?_cons_succ, Option.join_some, Option.some.injEq, Option.map_some, exists_eq', exists_eq, exists_eq_left', exists_eq_left, exists_and_left, Option.bind_some, Option.bind_eq_bind, Option.pure_def, wipeR, restR, keepD, Tv.d.injEq, Tv.own.injEq, PyData.int.injEq, PyData.bool.injEq, PyData.tuple.injEq, PyData.list.injEq, PyData.str.injEq, List.cons.injEq, and_true, if_tt, if_ff, Option.bind_none, Option.getD_none, Option.getD_some, Int.sub_zero, Int.zero_add, and_assoc, true_and, exists_const, Nat.reduceAdd, Nat.reduceLT, Nat.reduceSub, Nat.zero_add]
        refine ⟨small64 (by omega), ?_⟩
        rw [List.range_succ, List.map_append]
        rfl
    · rintro acc ρ2 ⟨rfl, rfl⟩
      rw [zip_mat_len]
      simp only [r_nil, r_cons, r_set, r_unp, r_par, r_ix1, r_ix2, r_ixp, r_ixe, r_app, r_ext, r_expr, r_ret, r_retv, r_retN, r_if, r_for, r_while, r_pass, r_brk, r_cont, q_sim, q_bin, q_neg, q_cmp, q_isN, q_notN, q_chain, q_and, q_or, q_and1, q_and2, q_or1, q_or2, q_not, q_ite, q_tup, q_lst, q_idx, q_slice, q_rev, q_blt1, q_bltv, q_blt2, q_sortset, q_lrng, q_lc, q_pop, q_index, q_es0, q_es1, q_o0, q_o1, q_c0, q_c1, q_seq, q_rng, q_enum, q_zip, g_name, g_tup, g_t0, g_t1, o_add, o_sub, o_mul, o_fdiv, o_mod, o_pow, f_d, f_nil, c_lt, c_le, c_gt, c_ge, c_eq, c_ne, at0, at1, at2, ix0, ix1, ix2, v_var, v_int, v_str, v_bl, v_non, v_glob, v_add, v_sub, v_neg, v_idx, v_len, onV_d, onV_scr, onW_d, onW_scr, onW_own, simR, sv, frzT, E.sim?, E.var?, SE.var?, Tv.item, Tv.len, PyData.itemsOf, List.map_cons, List.map_nil, List.replicate, List.cons_append, List.nil_append, List.length_cons, List.length_nil, List.set_cons_zero, List.set_cons_succ, List.getElem?_cons_zero, List.getElem?_cons_succ, Option.join_some, Option.some.injEq, Option.map_some, exists_eq', exists_eq, exists_eq_left', exists_eq_left, exists_and_left, Option.bind_some, Option.bind_eq_bind, Option.pure_def, wipeR, restR, keepD, Tv.d.injEq, Tv.own.injEq, PyData.int.injEq, PyData.bool.injEq, PyData.tuple.injEq, PyData.list.injEq, PyData.str.injEq, List.cons.injEq, and_true, if_tt, if_ff, Option.bind_none, Option.getD_none, Option.getD_some, Int.sub_zero, Int.zero_add, and_assoc, true_and, exists_const, Nat.reduceAdd, Nat.reduceLT, Nat.reduceSub, Nat.zero_add]
      rfl
  · rintro ρ2 rfl
    simp only [List.length_map, List.length_range, r_nil, r_cons, r_set, r_unp, r_par, r_ix1, r_ix2, r_ixp, r_ixe, r_app, r_ext, r_expr, r_ret, r_retv, r_retN, r_if, r_for, r_while, r_pass, r_brk, r_cont, q_sim, q_bin, q_neg, q_cmp, q_isN, q_notN, q_chain, q_and, q_or, q_and1, q_and2, q_or1, q_or2, q_not, q_ite, q_tup, q_lst, q_idx, q_slice, q_rev, q_blt1, q_bltv, q_blt2, q_sortset, q_lrng, q_lc, q_pop, q_index, q_es0, q_es1, q_o0, q_o1, q_c0, q_c1, q_seq, q_rng, q_enum, q_zip, g_name, g_tup, g_t0, g_t1, o_add, o_sub, o_mul, o_fdiv, o_mod, o_pow, f_d, f_nil, c_lt, c_le, c_gt, c_ge, c_eq, c_ne, at0, at1, at2, ix0, ix1, ix2, v_var, v_int, v_str, v_bl, v_non, v_glob, v_add, v_sub, v_neg, v_idx, v_len, onV_d, onV_scr, onW_d, onW_scr, onW_own, simR, sv, frzT, E.sim?, E.var?, SE.var?, Tv.item, Tv.len, PyData.itemsOf, List.map_cons, List.map_nil, List.replicate, List.cons_append, List.nil_append, List.length_cons, List.length_nil, List.set_cons_zero, List.set_cons_succ, List.getElem?_cons_zero, List.getElem?_cons_succ, Option.join_some, Option.some.injEq, Option.map_some, exists_eq', exists_eq, exists_eq_left', exists_eq_left, exists_and_left, Option.bind_some, Option.bind_eq_bind, Option.pure_def, wipeR, restR, keepD, Tv.d.injEq, Tv.own.injEq, PyData.int.injEq, PyData.bool.injEq, PyData.tuple.injEq, PyData.list.injEq, PyData.str.injEq, List.cons.injEq, and_true, if_tt, if_ff, Option.bind_none, Option.getD_none, Option.getD_some, Int.sub_zero, Int.zero_add, and_assoc, true_and, exists_const, Nat.reduceAdd, Nat.reduceLT, Nat.reduceSub, Nat.zero_add]
    exact hq _
end Tr
set_option Elab.async false
set_option linter.all false
set_option maxRecDepth 100000
set_option maxHeartbeats 4000000
set_option exponentiation.threshold 3000
namespace Tr
open PySem PySem.Spec PyProof.Rows L2
/-! the table is the same both ways, and small -/
theorem sm_comm (p : Nat × Nat) (a b : Nat) : sm p a b = sm p b a := by
  unfold sm
  grind
theorem cell_comm (o : Prs) (a b : Nat) : cell o a b = cell o b a := by
  have e1 : sM o a b = sM o b a := by
    unfold sM
    congr 1
    exact List.map_congr_left fun p _ => sm_comm p a b
  have e2 : sSS o a b = sSS o b a := by
    unfold sSS
    congr 1
    exact List.map_congr_left fun p _ => Int.mul_comm _ _
  unfold cell
  rw [e1, e2, Int.mul_comm (sS o a)]
theorem tab_comm (pl : List PyData) (k a b : Nat) : tabK pl k a b = tabK pl k b a := by
  unfold tabK
  congr 1
  exact List.map_congr_left fun p _ => cell_comm _ a b
theorem law_abs {own : Prs} (hl : own.length ≤ 480) (a b : Nat) : (lawCell own a b).natAbs ≤ 480 := by
  unfold lawCell
  split
  · exact Nat.zero_le _
  · unfold lawPick
    split
    · split
      · omega
      · split <;> decide
    · exact Nat.zero_le _
theorem tab_abs {pr pk : Int} {ss : List PyData} (h : PlanOk pr pk ss) (a b : Nat) : ∀ k : Nat, (tabK (playsL ss) k a b).natAbs ≤ 480 * k
  | 0 => Nat.zero_le _
  | k + 1 => by
    have ih := tab_abs h a b k
    have h1 := law_abs (own_in (plays_all h) (plays_len h) k).1 a b
    rw [law_cell (own_one h k)] at h1
    rw [tab_succ]
    omega
theorem tab_small {pr pk : Int} {ss : List PyData} (h : PlanOk pr pk ss) (a b : Nat) : (tabK (playsL ss) pk.toNat a b).natAbs ≤ 4800 := by
  have h1 := tab_abs h a b pk.toNat
  have h2 := h.k2
  omega
theorem nic_row {P : Nat} {g : Nat → Int} (h : ∀ j, (g j).natAbs ≤ 100000) : nicA true (rowD P g) = true := nic_all true _ fun x hx => by
  obtain ⟨j, _, rfl⟩ := List.mem_map.mp hx
  exact decide_eq_true (Nat.lt_of_le_of_lt (h j) (by decide))
theorem shal_row (n P : Nat) (g : Nat → Int) : (rowD P g).all (shal n) = true := List.all_eq_true.mpr fun x hx => by
  obtain ⟨j, _, rfl⟩ := List.mem_map.mp hx
  cases n <;> rfl
theorem bulk_row (P : Nat) (g : Nat → Int) : PyData.bulkAll (rowD P g) ≤ P := by
  have h := bulk_all (B := 0) (xs := rowD P g) fun x hx => by
    obtain ⟨j, _, rfl⟩ := List.mem_map.mp hx
    exact Nat.le_refl 0
  have e : (rowD P g).length = P := by
    unfold rowD
    rw [List.length_map, List.length_range]
  omega
theorem show_tabs {P : Nat} {f : TF} (hP : P ≤ 10) (h : ∀ a b, (f a b).natAbs ≤ 100000) : ShowOk (.list [tabD P f, tabD P f]) := by
  unfold tabD
  refine show_two (nic_all true _ fun x hx => ?_) (List.all_eq_true.mpr fun x hx => ?_) ?_
  · obtain ⟨i, _, rfl⟩ := List.mem_map.mp hx
    exact nic_row (h i)
  · obtain ⟨i, _, rfl⟩ := List.mem_map.mp hx
    exact shal_row 27 P (f i)
  · have h1 := bulk_all (B := 10) (xs := (List.range P).map fun i => PyData.tuple (rowD P (f i))) fun x hx => by
      obtain ⟨i, _, rfl⟩ := List.mem_map.mp hx
      exact Nat.le_trans (bulk_row P (f i)) hP
    rw [List.length_map, List.length_range] at h1
    omega
theorem show_three_ints {a : Int} (ha : a.natAbs ≤ 100000) : ShowOk (.list [.int a, .int a, .int a]) := by
  refine show_okb (b := true) ?_ rfl (Nat.le_trans (show 0 + 1 + (0 + 1 + (0 + 1 + 0)) ≤ 3 from Nat.le_refl _) (by decide))
  have : a.natAbs < 10 ^ 60 := Nat.lt_of_le_of_lt ha (by decide)
  show (decide (a.natAbs < 10 ^ 60) && (decide (a.natAbs < 10 ^ 60) && (decide (a.natAbs < 10 ^ 60) && true))) = true
  rw [decide_eq_true this]
  rfl
/-! two unlike pairs -/
def bTwo : SL := (.cons (.set 2 (.call "_law_take" (.cons (.sim (.var 0)) (.cons (.sim (.idx (.var 1) (.int 0))) .nil))))
  (.cons (.ret (.lst (.cons (.sim (.var 2)) (.cons (.bin .mod (.bltv .int (.bin .add (.bin .add (.sim (.var 2)) (.sim (.int 1))) (.call "_law_take" (.cons (.sim (.var 0)) (.cons (.bin .sub (.sim (.idx (.var 1) (.int 0))) (.sim (.int 1))) .nil))))) (.sim (.idx (.var 1) (.int 0)))) .nil))))
  .nil))
def spTwo : FS := fun xs Q => ∃ (a b c pr pk : Int) (ss : List PyData), xs = [deck a b c, .d (planD pr pk ss)] ∧ PlanOk pr pk ss ∧ ∀ (i j : Nat) a b c rest, i < pr.toNat → j < pr.toNat → i ≠ j → Q (.own [.d (.int (i : Nat)), .d (.int (j : Nat))]) (some (deck a b c) :: rest)
theorem ok_two {Γ : Gam} {Φ : Phi} (hT : Φ "_law_take" = some feTake3) : ∀ xs Q, spTwo xs Q → fsOf Γ Φ 2 3 bTwo xs Q := by
  rintro xs Q ⟨a, b, c, pr, pk, ss, rfl, hP, hq⟩
  refine ⟨rfl, ?_⟩
  have hp1 := hP.p1
  have hp2 := hP.p2
  rw [bTwo, r_cons]
  simp only [q_callO hT rfl, planD, at0, args1, feTake3, r_nil, r_set, r_unp, r_par, r_ix1, r_ix2, r_ixp, r_ixe, r_app, r_ext, r_expr, r_ret, r_retv, r_retN, r_if, r_for, r_while, r_pass, r_brk, r_cont, q_sim, q_bin, q_neg, q_cmp, q_isN, q_notN, q_chain, q_and, q_or, q_and1, q_and2, q_or1, q_or2, q_not, q_ite, q_tup, q_lst, q_idx, q_slice, q_rev, q_blt1, q_bltv, q_blt2, q_sortset, q_lrng, q_lc, q_pop, q_index, q_es0, q_es1, q_o0, q_o1, q_c0, q_c1, q_seq, q_rng, q_enum, q_zip, g_name, g_tup, g_t0, g_t1, o_add, o_sub, o_mul, o_fdiv, o_mod, o_pow, f_d, f_nil, c_lt, c_le, c_gt, c_ge, c_eq, c_ne, at0, at1, at2, ix0, ix1, ix2, v_var, v_int, v_str, v_bl, v_non, v_glob, v_add, v_sub, v_neg, v_idx, v_len, onV_d, onV_scr, onW_d, onW_scr, onW_own, simR, sv, frzT, E.sim?, E.var?, SE.var?, Tv.item, Tv.len, PyData.itemsOf, List.map_cons, List.map_nil, List.replicate, List.cons_append, List.nil_append, List.length_cons, List.length_nil, List.set_cons_zero, List.set_cons_succ, List.getElem?_cons_zero, List.getElem?_cons_succ, Option.join_some, Option.some.injEq, Option.map_some, exists_eq', exists_eq, exists_eq_left', exists_eq_left, exists_and_left, Option.bind_some, Option.bind_eq_bind, Option.pure_def, wipeR, restR, keepD, Tv.d.injEq, Tv.own.injEq, PyData.int.injEq, PyData.bool.injEq, PyData.tuple.injEq, PyData.list.injEq, PyData.str.injEq, List.cons.injEq, and_true, if_tt, if_ff, Option.bind_none, Option.getD_none, Option.getD_some, Int.sub_zero, Int.zero_add, and_assoc, true_and, exists_const, Nat.reduceAdd, Nat.reduceLT, Nat.reduceSub, Nat.zero_add]
  refine ⟨_, rfl, a, b, c, _, rfl, by omega, lt_big (by omega), fun n a b c rest n0 n1 => ?_⟩
  simp only [r_nil, r_set, r_unp, r_par, r_ix1, r_ix2, r_ixp, r_ixe, r_app, r_ext, r_expr, r_ret, r_retv, r_retN, r_if, r_for, r_while, r_pass, r_brk, r_cont, q_sim, q_bin, q_neg, q_cmp, q_isN, q_notN, q_chain, q_and, q_or, q_and1, q_and2, q_or1, q_or2, q_not, q_ite, q_tup, q_lst, q_idx, q_slice, q_rev, q_blt1, q_bltv, q_blt2, q_sortset, q_lrng, q_lc, q_pop, q_index, q_es0, q_es1, q_o0, q_o1, q_c0, q_c1, q_seq, q_rng, q_enum, q_zip, g_name, g_tup, g_t0, g_t1, o_add, o_sub, o_mul, o_fdiv, o_mod, o_pow, f_d, f_nil, c_lt, c_le, c_gt, c_ge, c_eq, c_ne, at0, at1, at2, ix0, ix1, ix2, v_var, v_int, v_str, v_bl, v_non, v_glob, v_add, v_sub, v_neg, v_idx, v_len, onV_d, onV_scr, onW_d, onW_scr, onW_own, simR, sv, frzT, E.sim?, E.var?, SE.var?, Tv.item, Tv.len, PyData.itemsOf, List.map_cons, List.map_nil, List.replicate, List.cons_append, List.nil_append, List.length_cons, List.length_nil, List.set_cons_zero, List.set_cons_succ, List.getElem?_cons_zero, List.getElem?_cons_succ, Option.join_some, Option.some.injEq, Option.map_some, exists_eq', exists_eq, exists_eq_left', exists_eq_left, exists_and_left, Option.bind_some, Option.bind_eq_bind, Option.pure_def, wipeR, restR, keepD, Tv.d.injEq, Tv.own.injEq, PyData.int.injEq, PyData.bool.injEq, PyData.tuple.injEq, PyData.list.injEq, PyData.str.injEq, List.cons.injEq, and_true, if_tt, if_ff, Option.bind_none, Option.getD_none, Option.getD_some, Int.sub_zero, Int.zero_add, and_assoc, true_and, exists_const, Nat.reduceAdd, Nat.reduceLT, Nat.reduceSub, Nat.zero_add]
  rw [r_cons]
  simp only [q_callO hT rfl, planD, at0, args1, feTake3, r_nil, r_set, r_unp, r_par, r_ix1, r_ix2, r_ixp, r_ixe, r_app, r_ext, r_expr, r_ret, r_retv, r_retN, r_if, r_for, r_while, r_pass, r_brk, r_cont, q_sim, q_bin, q_neg, q_cmp, q_isN, q_notN, q_chain, q_and, q_or, q_and1, q_and2, q_or1, q_or2, q_not, q_ite, q_tup, q_lst, q_idx, q_slice, q_rev, q_blt1, q_bltv, q_blt2, q_sortset, q_lrng, q_lc, q_pop, q_index, q_es0, q_es1, q_o0, q_o1, q_c0, q_c1, q_seq, q_rng, q_enum, q_zip, g_name, g_tup, g_t0, g_t1, o_add, o_sub, o_mul, o_fdiv, o_mod, o_pow, f_d, f_nil, c_lt, c_le, c_gt, c_ge, c_eq, c_ne, at0, at1, at2, ix0, ix1, ix2, v_var, v_int, v_str, v_bl, v_non, v_glob, v_add, v_sub, v_neg, v_idx, v_len, onV_d, onV_scr, onW_d, onW_scr, onW_own, simR, sv, frzT, E.sim?, E.var?, SE.var?, Tv.item, Tv.len, PyData.itemsOf, List.map_cons, List.map_nil, List.replicate, List.cons_append, List.nil_append, List.length_cons, List.length_nil, List.set_cons_zero, List.set_cons_succ, List.getElem?_cons_zero, List.getElem?_cons_succ, Option.join_some, Option.some.injEq, Option.map_some, exists_eq', exists_eq, exists_eq_left', exists_eq_left, exists_and_left, Option.bind_some, Option.bind_eq_bind, Option.pure_def, wipeR, restR, keepD, Tv.d.injEq, Tv.own.injEq, PyData.int.injEq, PyData.bool.injEq, PyData.tuple.injEq, PyData.list.injEq, PyData.str.injEq, List.cons.injEq, and_true, if_tt, if_ff, Option.bind_none, Option.getD_none, Option.getD_some, Int.sub_zero, Int.zero_add, and_assoc, true_and, exists_const, Nat.reduceAdd, Nat.reduceLT, Nat.reduceSub, Nat.zero_add]
  refine ⟨_, rfl, a, b, c, _, rfl, by omega, lt_big (by omega), fun e a b c rest e0 e1 => ?_⟩
  simp only [planD, at0, b_int, r_nil, r_set, r_unp, r_par, r_ix1, r_ix2, r_ixp, r_ixe, r_app, r_ext, r_expr, r_ret, r_retv, r_retN, r_if, r_for, r_while, r_pass, r_brk, r_cont, q_sim, q_bin, q_neg, q_cmp, q_isN, q_notN, q_chain, q_and, q_or, q_and1, q_and2, q_or1, q_or2, q_not, q_ite, q_tup, q_lst, q_idx, q_slice, q_rev, q_blt1, q_bltv, q_blt2, q_sortset, q_lrng, q_lc, q_pop, q_index, q_es0, q_es1, q_o0, q_o1, q_c0, q_c1, q_seq, q_rng, q_enum, q_zip, g_name, g_tup, g_t0, g_t1, o_add, o_sub, o_mul, o_fdiv, o_mod, o_pow, f_d, f_nil, c_lt, c_le, c_gt, c_ge, c_eq, c_ne, at0, at1, at2, ix0, ix1, ix2, v_var, v_int, v_str, v_bl, v_non, v_glob, v_add, v_sub, v_neg, v_idx, v_len, onV_d, onV_scr, onW_d, onW_scr, onW_own, simR, sv, frzT, E.sim?, E.var?, SE.var?, Tv.item, Tv.len, PyData.itemsOf, List.map_cons, List.map_nil, List.replicate, List.cons_append, List.nil_append, List.length_cons, List.length_nil, List.set_cons_zero, List.set_cons_succ, List.getElem?_cons_zero, List.getElem?_cons_succ, Option.join_some, Option.some.injEq, Option.map_some, exists_eq', exists_eq, exists_eq_left', exists_eq_left, exists_and_left, Option.bind_some, Option.bind_eq_bind, Option.pure_def, wipeR, restR, keepD, Tv.d.injEq, Tv.own.injEq, PyData.int.injEq, PyData.bool.injEq, PyData.tuple.injEq, PyData.list.injEq, PyData.str.injEq, List.cons.injEq, and_true, if_tt, if_ff, Option.bind_none, Option.getD_none, Option.getD_some, Int.sub_zero, Int.zero_add, and_assoc, true_and, exists_const, Nat.reduceAdd, Nat.reduceLT, Nat.reduceSub, Nat.zero_add]
  refine ⟨by omega, ?_⟩
  have m1 := Int.emod_nonneg (n + 1 + e) (show pr ≠ 0 by omega)
  have m2 := Int.emod_lt_of_pos (n + 1 + e) (show 0 < pr by omega)
  have hne : n ≠ (n + 1 + e) % pr := fun z => by
    have h3 : pr = 2 ∨ pr = 3 ∨ pr = 4 ∨ pr = 5 ∨ pr = 6 ∨ pr = 7 ∨ pr = 8 ∨ pr = 9 ∨ pr = 10 := by omega
    rcases h3 with rfl | rfl | rfl | rfl | rfl | rfl | rfl | rfl | rfl <;> omega
  generalize (n + 1 + e) % pr = ea at m1 m2 hne ⊢
  obtain ⟨n', rfl⟩ : ∃ n' : Nat, n = n' := ⟨n.toNat, by omega⟩
  obtain ⟨e', rfl⟩ : ∃ n' : Nat, ea = n' := ⟨ea.toNat, by omega⟩
  exact hq n' e' _ _ _ _ (by omega) (by omega) (by omega)
end Tr
set_option Elab.async false
set_option linter.all false
set_option maxRecDepth 100000
set_option maxHeartbeats 4000000
set_option exponentiation.threshold 3000
namespace Tr
open PySem PySem.Spec PyProof.Rows L2
def feLawTable : FE := ⟨["_law_plan_here"], [], none, spLawTable⟩
def feTwo : FE := ⟨["_law_deck_here", "_law_plan_here"], [], some 0, spTwo⟩
def feCompared : FE := ⟨["plan", "one", "other"], [["other", "one", "plan"]], none, spCompared⟩
def feWeight : FE := ⟨["plan", "pair"], [["pair", "plan"]], none, spWeight⟩
def b9R3 : SL := (.cons (.ite (.cmp .ne (.bltv .repr (.sim (.var 3))) (.sim (.var 5)))
  (.cons (.ret (.sim (.bl false)))
  .nil)
  .nil)
  .nil)
def b9R2 : SL := (.cons (.for_ (.name 4) (.rng .non (.sim (.int 8)))
  (.cons (.unp (.tup (.cons (.name 8) (.cons (.name 9) .nil))) (.call "_law_two" (.cons (.sim (.var 1)) (.cons (.sim (.var 3)) .nil))))
  (.cons (.set 7 (.lst (.cons (.call "compared" (.cons (.sim (.var 3)) (.cons (.sim (.var 8)) (.cons (.sim (.var 9)) .nil)))) (.cons (.call "compared" (.cons (.sim (.var 3)) (.cons (.sim (.var 9)) (.cons (.sim (.var 8)) .nil)))) (.cons (.callK "compared" ["other", "one", "plan"] (.cons (.sim (.var 9)) (.cons (.sim (.var 8)) (.cons (.sim (.var 3)) .nil)))) .nil)))))
  (.cons (.ite (.cmp .ne (.bltv .repr (.sim (.var 7))) (.bltv .repr (.bin .mul (.lst (.cons (.sim (.idx (.idx (.var 6) (.var 8)) (.var 9))) .nil)) (.sim (.int 3)))))
  (.cons (.ret (.sim (.bl false)))
  .nil)
  .nil)
  .nil)))
  [4, 8, 9, 7])
  b9R3)
def b9R1 : SL := (.cons (.ite (.cmp .ne (.bltv .repr (.lst (.cons (.call "table" (.cons (.sim (.var 3)) .nil)) (.cons (.callK "table" ["plan"] (.cons (.sim (.var 3)) .nil)) .nil)))) (.bltv .repr (.bin .mul (.lst (.cons (.blt1 .tuple (.lc (.blt1 .tuple (.sim (.var 10))) (.name 10) (.seq (.sim (.var 6))) .non [10])) .nil)) (.sim (.int 2)))))
  (.cons (.ret (.sim (.bl false)))
  .nil)
  .nil)
  b9R2)
def bLaw09 : SL := (.cons (.set 1 (.call "_law_deck" (.cons (.sim (.var 0)) .nil)))
  (.cons (.for_ (.name 2) (.rng .non (.sim (.int 7)))
  (.cons (.set 3 (.call "_law_plan" (.cons (.sim (.var 1)) (.cons (.ite (.cmp .lt (.sim (.var 2)) (.sim (.int 3))) (.sim (.int 10)) (.sim (.int 6))) .nil))))
  (.cons (.par [5, 6] (.cons (.bltv .repr (.sim (.var 3))) (.cons (.call "_law_table" (.cons (.sim (.var 3)) .nil)) .nil)))
  b9R1))
  [2, 3, 5, 6, 4, 8, 9, 7])
  (.cons (.ret (.sim (.bl true)))
  .nil)))
section
variable {Γ : Gam} {Φ : Phi} {ns : List Int} {a b c : Int} {k : Nat} {pr pk : Int} {ss : List PyData} {D : DE} {S : Str}
theorem matd_at {P : Nat} (f : TF) {i : Nat} (h : i < P) : atI (matD P f) (i : Nat) = some (.list (rowD P (f i))) := atI_nat (by
  unfold matD
  rw [List.getElem?_map, List.getElem?_range h]
  rfl)
theorem ok_9R2 (hC : Φ "compared" = some feCompared) (hW : Φ "_law_two" = some feTwo) (hP : PlanOk pr pk ss) (hS : (planD pr pk ss).shown = S)
    (hD : ∀ a b c x6, D.nx [some (.scr ns), some (deck a b c), some (.d (.int (k : Nat))), some (.d (planD pr pk ss)), none, some (.d (.str S)), some x6, none, none, none, none]) :
    wSL Γ Φ b9R2 D [some (.scr ns), some (deck a b c), some (.d (.int (k : Nat))), some (.d (planD pr pk ss)), none, some (.d (.str S)), some (.d (.list (matD pr.toNat (tabK (playsL ss) pk.toNat)))), none, none, none, none] := by
  have hts := tab_small hP
  have hcm := tab_comm (playsL ss) pk.toNat
  generalize hf : tabK (playsL ss) pk.toNat = f at hts hcm ⊢
  rw [b9R2, r_cons]
  simp only [r_nil, r_set, r_unp, r_par, r_ix1, r_ix2, r_ixp, r_ixe, r_app, r_ext, r_expr, r_ret, r_retv, r_retN, r_if, r_for, r_while, r_pass, r_brk, r_cont, q_sim, q_bin, q_neg, q_cmp, q_isN, q_notN, q_chain, q_and, q_or, q_and1, q_and2, q_or1, q_or2, q_not, q_ite, q_tup, q_lst, q_idx, q_slice, q_rev, q_blt1, q_bltv, q_blt2, q_sortset, q_lrng, q_lc, q_pop, q_index, q_es0, q_es1, q_o0, q_o1, q_c0, q_c1, q_seq, q_rng, q_enum, q_zip, g_name, g_tup, g_t0, g_t1, o_add, o_sub, o_mul, o_fdiv, o_mod, o_pow, f_d, f_nil, c_lt, c_le, c_gt, c_ge, c_eq, c_ne, at0, at1, at2, ix0, ix1, ix2, v_var, v_int, v_str, v_bl, v_non, v_glob, v_add, v_sub, v_neg, v_idx, v_len, onV_d, onV_scr, onW_d, onW_scr, onW_own, simR, sv, frzT, E.sim?, E.var?, SE.var?, Tv.item, Tv.len, PyData.itemsOf, List.map_cons, List.map_nil, List.replicate, List.cons_append, List.nil_append, List.length_cons, List.length_nil, List.set_cons_zero, List.set_cons_succ, List.getElem?_cons_zero, List.getElem?_cons_succ, Option.join_some, Option.some.injEq, Option.map_some, exists_eq', exists_eq, exists_eq_left', exists_eq_left, exists_and_left, Option.bind_some, Option.bind_eq_bind, Option.pure_def, wipeR, restR, keepD, Tv.d.injEq, Tv.own.injEq, PyData.int.injEq, PyData.bool.injEq, PyData.tuple.injEq, PyData.list.injEq, PyData.str.injEq, List.cons.injEq, and_true, if_tt, if_ff, Option.bind_none, Option.getD_none, Option.getD_some, Int.sub_zero, Int.zero_add, and_assoc, true_and, exists_const, Nat.reduceAdd, Nat.reduceLT, Nat.reduceSub, Nat.zero_add]
  refine ⟨by decide, by decide, by decide, by decide, fun g ρ => ∃ a b c, ρ = [some (.scr ns), some (deck a b c), some (.d (.int (k : Nat))), some (.d (planD pr pk ss)), none, some (.d (.str S)), some (.d (.list (matD pr.toNat f))), none, none, none, none], ⟨a, b, c, rfl⟩, ?_, ?_⟩
  · rintro g x ρ2 hx ⟨a, b, c, rfl⟩
    simp only [r_nil, r_set, r_unp, r_par, r_ix1, r_ix2, r_ixp, r_ixe, r_app, r_ext, r_expr, r_ret, r_retv, r_retN, r_if, r_for, r_while, r_pass, r_brk, r_cont, q_sim, q_bin, q_neg, q_cmp, q_isN, q_notN, q_chain, q_and, q_or, q_and1, q_and2, q_or1, q_or2, q_not, q_ite, q_tup, q_lst, q_idx, q_slice, q_rev, q_blt1, q_bltv, q_blt2, q_sortset, q_lrng, q_lc, q_pop, q_index, q_es0, q_es1, q_o0, q_o1, q_c0, q_c1, q_seq, q_rng, q_enum, q_zip, g_name, g_tup, g_t0, g_t1, o_add, o_sub, o_mul, o_fdiv, o_mod, o_pow, f_d, f_nil, c_lt, c_le, c_gt, c_ge, c_eq, c_ne, at0, at1, at2, ix0, ix1, ix2, v_var, v_int, v_str, v_bl, v_non, v_glob, v_add, v_sub, v_neg, v_idx, v_len, onV_d, onV_scr, onW_d, onW_scr, onW_own, simR, sv, frzT, E.sim?, E.var?, SE.var?, Tv.item, Tv.len, PyData.itemsOf, List.map_cons, List.map_nil, List.replicate, List.cons_append, List.nil_append, List.length_cons, List.length_nil, List.set_cons_zero, List.set_cons_succ, List.getElem?_cons_zero, List.getElem?_cons_succ, Option.join_some, Option.some.injEq, Option.map_some, exists_eq', exists_eq, exists_eq_left', exists_eq_left, exists_and_left, Option.bind_some, Option.bind_eq_bind, Option.pure_def, wipeR, restR, keepD, Tv.d.injEq, Tv.own.injEq, PyData.int.injEq, PyData.bool.injEq, PyData.tuple.injEq, PyData.list.injEq, PyData.str.injEq, List.cons.injEq, and_true, if_tt, if_ff, Option.bind_none, Option.getD_none, Option.getD_some, Int.sub_zero, Int.zero_add, and_assoc, true_and, exists_const, Nat.reduceAdd, Nat.reduceLT, Nat.reduceSub, Nat.zero_add]
    rw [r_cons]
    simp only [q_callO hW rfl, args1, feTwo, r_nil, r_set, r_unp, r_par, r_ix1, r_ix2, r_ixp, r_ixe, r_app, r_ext, r_expr, r_ret, r_retv, r_retN, r_if, r_for, r_while, r_pass, r_brk, r_cont, q_sim, q_bin, q_neg, q_cmp, q_isN, q_notN, q_chain, q_and, q_or, q_and1, q_and2, q_or1, q_or2, q_not, q_ite, q_tup, q_lst, q_idx, q_slice, q_rev, q_blt1, q_bltv, q_blt2, q_sortset, q_lrng, q_lc, q_pop, q_index, q_es0, q_es1, q_o0, q_o1, q_c0, q_c1, q_seq, q_rng, q_enum, q_zip, g_name, g_tup, g_t0, g_t1, o_add, o_sub, o_mul, o_fdiv, o_mod, o_pow, f_d, f_nil, c_lt, c_le, c_gt, c_ge, c_eq, c_ne, at0, at1, at2, ix0, ix1, ix2, v_var, v_int, v_str, v_bl, v_non, v_glob, v_add, v_sub, v_neg, v_idx, v_len, onV_d, onV_scr, onW_d, onW_scr, onW_own, simR, sv, frzT, E.sim?, E.var?, SE.var?, Tv.item, Tv.len, PyData.itemsOf, List.map_cons, List.map_nil, List.replicate, List.cons_append, List.nil_append, List.length_cons, List.length_nil, List.set_cons_zero, List.set_cons_succ, List.getElem?_cons_zero, List.getElem?_cons_succ, Option.join_some, Option.some.injEq, Option.map_some, exists_eq', exists_eq, exists_eq_left', exists_eq_left, exists_and_left, Option.bind_some, Option.bind_eq_bind, Option.pure_def, wipeR, restR, keepD, Tv.d.injEq, Tv.own.injEq, PyData.int.injEq, PyData.bool.injEq, PyData.tuple.injEq, PyData.list.injEq, PyData.str.injEq, List.cons.injEq, and_true, if_tt, if_ff, Option.bind_none, Option.getD_none, Option.getD_some, Int.sub_zero, Int.zero_add, and_assoc, true_and, exists_const, Nat.reduceAdd, Nat.reduceLT, Nat.reduceSub, Nat.zero_add]
    refine ⟨_, rfl, a, b, c, pr, pk, ss, rfl, hP, fun i j a b c rest hi hj hij => ?_⟩
    simp only [fo2, r_nil, r_set, r_unp, r_par, r_ix1, r_ix2, r_ixp, r_ixe, r_app, r_ext, r_expr, r_ret, r_retv, r_retN, r_if, r_for, r_while, r_pass, r_brk, r_cont, q_sim, q_bin, q_neg, q_cmp, q_isN, q_notN, q_chain, q_and, q_or, q_and1, q_and2, q_or1, q_or2, q_not, q_ite, q_tup, q_lst, q_idx, q_slice, q_rev, q_blt1, q_bltv, q_blt2, q_sortset, q_lrng, q_lc, q_pop, q_index, q_es0, q_es1, q_o0, q_o1, q_c0, q_c1, q_seq, q_rng, q_enum, q_zip, g_name, g_tup, g_t0, g_t1, o_add, o_sub, o_mul, o_fdiv, o_mod, o_pow, f_d, f_nil, c_lt, c_le, c_gt, c_ge, c_eq, c_ne, at0, at1, at2, ix0, ix1, ix2, v_var, v_int, v_str, v_bl, v_non, v_glob, v_add, v_sub, v_neg, v_idx, v_len, onV_d, onV_scr, onW_d, onW_scr, onW_own, simR, sv, frzT, E.sim?, E.var?, SE.var?, Tv.item, Tv.len, PyData.itemsOf, List.map_cons, List.map_nil, List.replicate, List.cons_append, List.nil_append, List.length_cons, List.length_nil, List.set_cons_zero, List.set_cons_succ, List.getElem?_cons_zero, List.getElem?_cons_succ, Option.join_some, Option.some.injEq, Option.map_some, exists_eq', exists_eq, exists_eq_left', exists_eq_left, exists_and_left, Option.bind_some, Option.bind_eq_bind, Option.pure_def, wipeR, restR, keepD, Tv.d.injEq, Tv.own.injEq, PyData.int.injEq, PyData.bool.injEq, PyData.tuple.injEq, PyData.list.injEq, PyData.str.injEq, List.cons.injEq, and_true, if_tt, if_ff, Option.bind_none, Option.getD_none, Option.getD_some, Int.sub_zero, Int.zero_add, and_assoc, true_and, exists_const, Nat.reduceAdd, Nat.reduceLT, Nat.reduceSub, Nat.zero_add]
    rw [r_cons]
    simp only [q_call hC rfl, q_callK hC rfl, args33, feCompared, r_nil, r_set, r_unp, r_par, r_ix1, r_ix2, r_ixp, r_ixe, r_app, r_ext, r_expr, r_ret, r_retv, r_retN, r_if, r_for, r_while, r_pass, r_brk, r_cont, q_sim, q_bin, q_neg, q_cmp, q_isN, q_notN, q_chain, q_and, q_or, q_and1, q_and2, q_or1, q_or2, q_not, q_ite, q_tup, q_lst, q_idx, q_slice, q_rev, q_blt1, q_bltv, q_blt2, q_sortset, q_lrng, q_lc, q_pop, q_index, q_es0, q_es1, q_o0, q_o1, q_c0, q_c1, q_seq, q_rng, q_enum, q_zip, g_name, g_tup, g_t0, g_t1, o_add, o_sub, o_mul, o_fdiv, o_mod, o_pow, f_d, f_nil, c_lt, c_le, c_gt, c_ge, c_eq, c_ne, at0, at1, at2, ix0, ix1, ix2, v_var, v_int, v_str, v_bl, v_non, v_glob, v_add, v_sub, v_neg, v_idx, v_len, onV_d, onV_scr, onW_d, onW_scr, onW_own, simR, sv, frzT, E.sim?, E.var?, SE.var?, Tv.item, Tv.len, PyData.itemsOf, List.map_cons, List.map_nil, List.replicate, List.cons_append, List.nil_append, List.length_cons, List.length_nil, List.set_cons_zero, List.set_cons_succ, List.getElem?_cons_zero, List.getElem?_cons_succ, Option.join_some, Option.some.injEq, Option.map_some, exists_eq', exists_eq, exists_eq_left', exists_eq_left, exists_and_left, Option.bind_some, Option.bind_eq_bind, Option.pure_def, wipeR, restR, keepD, Tv.d.injEq, Tv.own.injEq, PyData.int.injEq, PyData.bool.injEq, PyData.tuple.injEq, PyData.list.injEq, PyData.str.injEq, List.cons.injEq, and_true, if_tt, if_ff, Option.bind_none, Option.getD_none, Option.getD_some, Int.sub_zero, Int.zero_add, and_assoc, true_and, exists_const, Nat.reduceAdd, Nat.reduceLT, Nat.reduceSub, Nat.zero_add]
    refine ⟨pr, pk, ss, i, j, rfl, hP, hi, hj, fun rest => ?_⟩
    refine ⟨pr, pk, ss, j, i, rfl, hP, hj, hi, fun rest => ?_⟩
    refine ⟨by simp, _, rfl, pr, pk, ss, i, j, rfl, hP, hi, hj, fun rest => ?_⟩
    rw [hf, hcm j i]
    show wSL Γ Φ _ _ _
    rw [r_cons]
    have okT := show_three_ints (a := f i j) (by have := hts i j; omega)
    simp only [r_nil, r_set, r_unp, r_par, r_ix1, r_ix2, r_ixp, r_ixe, r_app, r_ext, r_expr, r_ret, r_retv, r_retN, r_if, r_for, r_while, r_pass, r_brk, r_cont, q_sim, q_bin, q_neg, q_cmp, q_isN, q_notN, q_chain, q_and, q_or, q_and1, q_and2, q_or1, q_or2, q_not, q_ite, q_tup, q_lst, q_idx, q_slice, q_rev, q_blt1, q_bltv, q_blt2, q_sortset, q_lrng, q_lc, q_pop, q_index, q_es0, q_es1, q_o0, q_o1, q_c0, q_c1, q_seq, q_rng, q_enum, q_zip, g_name, g_tup, g_t0, g_t1, o_add, o_sub, o_mul, o_fdiv, o_mod, o_pow, f_d, f_nil, c_lt, c_le, c_gt, c_ge, c_eq, c_ne, at0, at1, at2, ix0, ix1, ix2, v_var, v_int, v_str, v_bl, v_non, v_glob, v_add, v_sub, v_neg, v_idx, v_len, onV_d, onV_scr, onW_d, onW_scr, onW_own, simR, sv, frzT, E.sim?, E.var?, SE.var?, Tv.item, Tv.len, PyData.itemsOf, List.map_cons, List.map_nil, List.replicate, List.cons_append, List.nil_append, List.length_cons, List.length_nil, List.set_cons_zero, List.set_cons_succ, List.getElem?_cons_zero, List.getElem?_cons_succ, Option.join_some, Option.some.injEq, Option.map_some, exists_eq', exists_eq, exists_eq_left', exists_eq_left, exists_and_left, Option.bind_some, Option.bind_eq_bind, Option.pure_def, wipeR, restR, keepD, Tv.d.injEq, Tv.own.injEq, PyData.int.injEq, PyData.bool.injEq, PyData.tuple.injEq, PyData.list.injEq, PyData.str.injEq, List.cons.injEq, and_true, if_tt, if_ff, Option.bind_none, Option.getD_none, Option.getD_some, Int.sub_zero, Int.zero_add, and_assoc, true_and, exists_const, Nat.reduceAdd, Nat.reduceLT, Nat.reduceSub, Nat.zero_add]
    refine b_repr fo3 rfl okT ?_
    simp only [matd_at f hi, rowd_at (f i) hj, r_nil, r_set, r_unp, r_par, r_ix1, r_ix2, r_ixp, r_ixe, r_app, r_ext, r_expr, r_ret, r_retv, r_retN, r_if, r_for, r_while, r_pass, r_brk, r_cont, q_sim, q_bin, q_neg, q_cmp, q_isN, q_notN, q_chain, q_and, q_or, q_and1, q_and2, q_or1, q_or2, q_not, q_ite, q_tup, q_lst, q_idx, q_slice, q_rev, q_blt1, q_bltv, q_blt2, q_sortset, q_lrng, q_lc, q_pop, q_index, q_es0, q_es1, q_o0, q_o1, q_c0, q_c1, q_seq, q_rng, q_enum, q_zip, g_name, g_tup, g_t0, g_t1, o_add, o_sub, o_mul, o_fdiv, o_mod, o_pow, f_d, f_nil, c_lt, c_le, c_gt, c_ge, c_eq, c_ne, at0, at1, at2, ix0, ix1, ix2, v_var, v_int, v_str, v_bl, v_non, v_glob, v_add, v_sub, v_neg, v_idx, v_len, onV_d, onV_scr, onW_d, onW_scr, onW_own, simR, sv, frzT, E.sim?, E.var?, SE.var?, Tv.item, Tv.len, PyData.itemsOf, List.map_cons, List.map_nil, List.replicate, List.cons_append, List.nil_append, List.length_cons, List.length_nil, List.set_cons_zero, List.set_cons_succ, List.getElem?_cons_zero, List.getElem?_cons_succ, Option.join_some, Option.some.injEq, Option.map_some, exists_eq', exists_eq, exists_eq_left', exists_eq_left, exists_and_left, Option.bind_some, Option.bind_eq_bind, Option.pure_def, wipeR, restR, keepD, Tv.d.injEq, Tv.own.injEq, PyData.int.injEq, PyData.bool.injEq, PyData.tuple.injEq, PyData.list.injEq, PyData.str.injEq, List.cons.injEq, and_true, if_tt, if_ff, Option.bind_none, Option.getD_none, Option.getD_some, Int.sub_zero, Int.zero_add, and_assoc, true_and, exists_const, Nat.reduceAdd, Nat.reduceLT, Nat.reduceSub, Nat.zero_add]
    refine ⟨[.int (f i j)], fo1, by decide, by decide, by rw [sizeLine_eq]; exact (by decide : 1 * Int.toNat 3 ≤ 16777216), ?_⟩
    refine b_repr (d := .list [.int (f i j), .int (f i j), .int (f i j)]) fo3 rfl okT (c_neStr ?_)
    simp only [beq_self_eq_true, Bool.not_true, r_nil, r_cons, r_set, r_unp, r_par, r_ix1, r_ix2, r_ixp, r_ixe, r_app, r_ext, r_expr, r_ret, r_retv, r_retN, r_if, r_for, r_while, r_pass, r_brk, r_cont, q_sim, q_bin, q_neg, q_cmp, q_isN, q_notN, q_chain, q_and, q_or, q_and1, q_and2, q_or1, q_or2, q_not, q_ite, q_tup, q_lst, q_idx, q_slice, q_rev, q_blt1, q_bltv, q_blt2, q_sortset, q_lrng, q_lc, q_pop, q_index, q_es0, q_es1, q_o0, q_o1, q_c0, q_c1, q_seq, q_rng, q_enum, q_zip, g_name, g_tup, g_t0, g_t1, o_add, o_sub, o_mul, o_fdiv, o_mod, o_pow, f_d, f_nil, c_lt, c_le, c_gt, c_ge, c_eq, c_ne, at0, at1, at2, ix0, ix1, ix2, v_var, v_int, v_str, v_bl, v_non, v_glob, v_add, v_sub, v_neg, v_idx, v_len, onV_d, onV_scr, onW_d, onW_scr, onW_own, simR, sv, frzT, E.sim?, E.var?, SE.var?, Tv.item, Tv.len, PyData.itemsOf, List.map_cons, List.map_nil, List.replicate, List.cons_append, List.nil_append, List.length_cons, List.length_nil, List.set_cons_zero, List.set_cons_succ, List.getElem?_cons_zero, List.getElem?_cons_succ, Option.join_some, Option.some.injEq, Option.map_some, exists_eq', exists_eq, exists_eq_left', exists_eq_left, exists_and_left, Option.bind_some, Option.bind_eq_bind, Option.pure_def, wipeR, restR, keepD, Tv.d.injEq, Tv.own.injEq, PyData.int.injEq, PyData.bool.injEq, PyData.tuple.injEq, PyData.list.injEq, PyData.str.injEq, List.cons.injEq, and_true, if_tt, if_ff, Option.bind_none, Option.getD_none, Option.getD_some, Int.sub_zero, Int.zero_add, and_assoc, true_and, exists_const, Nat.reduceAdd, Nat.reduceLT, Nat.reduceSub, Nat.zero_add]
    exact ⟨_, _, _, rfl⟩
  · rintro ρ2 ⟨a, b, c, rfl⟩
    show wSL Γ Φ _ _ _
    rw [b9R3, r_cons]
    simp only [r_nil, r_set, r_unp, r_par, r_ix1, r_ix2, r_ixp, r_ixe, r_app, r_ext, r_expr, r_ret, r_retv, r_retN, r_if, r_for, r_while, r_pass, r_brk, r_cont, q_sim, q_bin, q_neg, q_cmp, q_isN, q_notN, q_chain, q_and, q_or, q_and1, q_and2, q_or1, q_or2, q_not, q_ite, q_tup, q_lst, q_idx, q_slice, q_rev, q_blt1, q_bltv, q_blt2, q_sortset, q_lrng, q_lc, q_pop, q_index, q_es0, q_es1, q_o0, q_o1, q_c0, q_c1, q_seq, q_rng, q_enum, q_zip, g_name, g_tup, g_t0, g_t1, o_add, o_sub, o_mul, o_fdiv, o_mod, o_pow, f_d, f_nil, c_lt, c_le, c_gt, c_ge, c_eq, c_ne, at0, at1, at2, ix0, ix1, ix2, v_var, v_int, v_str, v_bl, v_non, v_glob, v_add, v_sub, v_neg, v_idx, v_len, onV_d, onV_scr, onW_d, onW_scr, onW_own, simR, sv, frzT, E.sim?, E.var?, SE.var?, Tv.item, Tv.len, PyData.itemsOf, List.map_cons, List.map_nil, List.replicate, List.cons_append, List.nil_append, List.length_cons, List.length_nil, List.set_cons_zero, List.set_cons_succ, List.getElem?_cons_zero, List.getElem?_cons_succ, Option.join_some, Option.some.injEq, Option.map_some, exists_eq', exists_eq, exists_eq_left', exists_eq_left, exists_and_left, Option.bind_some, Option.bind_eq_bind, Option.pure_def, wipeR, restR, keepD, Tv.d.injEq, Tv.own.injEq, PyData.int.injEq, PyData.bool.injEq, PyData.tuple.injEq, PyData.list.injEq, PyData.str.injEq, List.cons.injEq, and_true, if_tt, if_ff, Option.bind_none, Option.getD_none, Option.getD_some, Int.sub_zero, Int.zero_add, and_assoc, true_and, exists_const, Nat.reduceAdd, Nat.reduceLT, Nat.reduceSub, Nat.zero_add]
    refine b_repr rfl rfl (show_plan hP) (c_neStr ?_)
    rw [hS]
    simp only [beq_self_eq_true, Bool.not_true, r_nil, r_cons, r_set, r_unp, r_par, r_ix1, r_ix2, r_ixp, r_ixe, r_app, r_ext, r_expr, r_ret, r_retv, r_retN, r_if, r_for, r_while, r_pass, r_brk, r_cont, q_sim, q_bin, q_neg, q_cmp, q_isN, q_notN, q_chain, q_and, q_or, q_and1, q_and2, q_or1, q_or2, q_not, q_ite, q_tup, q_lst, q_idx, q_slice, q_rev, q_blt1, q_bltv, q_blt2, q_sortset, q_lrng, q_lc, q_pop, q_index, q_es0, q_es1, q_o0, q_o1, q_c0, q_c1, q_seq, q_rng, q_enum, q_zip, g_name, g_tup, g_t0, g_t1, o_add, o_sub, o_mul, o_fdiv, o_mod, o_pow, f_d, f_nil, c_lt, c_le, c_gt, c_ge, c_eq, c_ne, at0, at1, at2, ix0, ix1, ix2, v_var, v_int, v_str, v_bl, v_non, v_glob, v_add, v_sub, v_neg, v_idx, v_len, onV_d, onV_scr, onW_d, onW_scr, onW_own, simR, sv, frzT, E.sim?, E.var?, SE.var?, Tv.item, Tv.len, PyData.itemsOf, List.map_cons, List.map_nil, List.replicate, List.cons_append, List.nil_append, List.length_cons, List.length_nil, List.set_cons_zero, List.set_cons_succ, List.getElem?_cons_zero, List.getElem?_cons_succ, Option.join_some, Option.some.injEq, Option.map_some, exists_eq', exists_eq, exists_eq_left', exists_eq_left, exists_and_left, Option.bind_some, Option.bind_eq_bind, Option.pure_def, wipeR, restR, keepD, Tv.d.injEq, Tv.own.injEq, PyData.int.injEq, PyData.bool.injEq, PyData.tuple.injEq, PyData.list.injEq, PyData.str.injEq, List.cons.injEq, and_true, if_tt, if_ff, Option.bind_none, Option.getD_none, Option.getD_some, Int.sub_zero, Int.zero_add, and_assoc, true_and, exists_const, Nat.reduceAdd, Nat.reduceLT, Nat.reduceSub, Nat.zero_add]
    exact hD _ _ _ _
theorem ok_9R1 (hT : Φ "table" = some feTable) (hC : Φ "compared" = some feCompared) (hW : Φ "_law_two" = some feTwo) (hP : PlanOk pr pk ss) (hS : (planD pr pk ss).shown = S)
    (hD : ∀ a b c x6, D.nx [some (.scr ns), some (deck a b c), some (.d (.int (k : Nat))), some (.d (planD pr pk ss)), none, some (.d (.str S)), some x6, none, none, none, none]) :
    wSL Γ Φ b9R1 D [some (.scr ns), some (deck a b c), some (.d (.int (k : Nat))), some (.d (planD pr pk ss)), none, some (.d (.str S)), some (.own (matL pr.toNat (tabK (playsL ss) pk.toNat))), none, none, none, none] := by
  have hp1 := hP.p1
  have hp2 := hP.p2
  have okT := show_tabs (P := pr.toNat) (f := tabK (playsL ss) pk.toNat) (by omega) fun a b => by have := tab_small hP a b; omega
  have hR2 := ok_9R2 (D := D) (k := k) (a := a) (b := b) (c := c) (ns := ns) (Γ := Γ) hC hW hP hS hD
  generalize hf : tabK (playsL ss) pk.toNat = f at okT hR2 ⊢
  rw [b9R1, r_cons]
  simp only [q_call hT rfl, q_callK hT rfl, args1, feTable, r_nil, r_set, r_unp, r_par, r_ix1, r_ix2, r_ixp, r_ixe, r_app, r_ext, r_expr, r_ret, r_retv, r_retN, r_if, r_for, r_while, r_pass, r_brk, r_cont, q_sim, q_bin, q_neg, q_cmp, q_isN, q_notN, q_chain, q_and, q_or, q_and1, q_and2, q_or1, q_or2, q_not, q_ite, q_tup, q_lst, q_idx, q_slice, q_rev, q_blt1, q_bltv, q_blt2, q_sortset, q_lrng, q_lc, q_pop, q_index, q_es0, q_es1, q_o0, q_o1, q_c0, q_c1, q_seq, q_rng, q_enum, q_zip, g_name, g_tup, g_t0, g_t1, o_add, o_sub, o_mul, o_fdiv, o_mod, o_pow, f_d, f_nil, c_lt, c_le, c_gt, c_ge, c_eq, c_ne, at0, at1, at2, ix0, ix1, ix2, v_var, v_int, v_str, v_bl, v_non, v_glob, v_add, v_sub, v_neg, v_idx, v_len, onV_d, onV_scr, onW_d, onW_scr, onW_own, simR, sv, frzT, E.sim?, E.var?, SE.var?, Tv.item, Tv.len, PyData.itemsOf, List.map_cons, List.map_nil, List.replicate, List.cons_append, List.nil_append, List.length_cons, List.length_nil, List.set_cons_zero, List.set_cons_succ, List.getElem?_cons_zero, List.getElem?_cons_succ, Option.join_some, Option.some.injEq, Option.map_some, exists_eq', exists_eq, exists_eq_left', exists_eq_left, exists_and_left, Option.bind_some, Option.bind_eq_bind, Option.pure_def, wipeR, restR, keepD, Tv.d.injEq, Tv.own.injEq, PyData.int.injEq, PyData.bool.injEq, PyData.tuple.injEq, PyData.list.injEq, PyData.str.injEq, List.cons.injEq, and_true, if_tt, if_ff, Option.bind_none, Option.getD_none, Option.getD_some, Int.sub_zero, Int.zero_add, and_assoc, true_and, exists_const, Nat.reduceAdd, Nat.reduceLT, Nat.reduceSub, Nat.zero_add]
  refine ⟨pr, pk, ss, rfl, hP, fun rest => ?_⟩
  refine ⟨by simp, _, rfl, pr, pk, ss, rfl, hP, fun rest => ?_⟩
  rw [hf]
  refine b_repr fo2 rfl okT ?_
  simp only [mat_frz, r_nil, r_set, r_unp, r_par, r_ix1, r_ix2, r_ixp, r_ixe, r_app, r_ext, r_expr, r_ret, r_retv, r_retN, r_if, r_for, r_while, r_pass, r_brk, r_cont, q_sim, q_bin, q_neg, q_cmp, q_isN, q_notN, q_chain, q_and, q_or, q_and1, q_and2, q_or1, q_or2, q_not, q_ite, q_tup, q_lst, q_idx, q_slice, q_rev, q_blt1, q_bltv, q_blt2, q_sortset, q_lrng, q_lc, q_pop, q_index, q_es0, q_es1, q_o0, q_o1, q_c0, q_c1, q_seq, q_rng, q_enum, q_zip, g_name, g_tup, g_t0, g_t1, o_add, o_sub, o_mul, o_fdiv, o_mod, o_pow, f_d, f_nil, c_lt, c_le, c_gt, c_ge, c_eq, c_ne, at0, at1, at2, ix0, ix1, ix2, v_var, v_int, v_str, v_bl, v_non, v_glob, v_add, v_sub, v_neg, v_idx, v_len, onV_d, onV_scr, onW_d, onW_scr, onW_own, simR, sv, frzT, E.sim?, E.var?, SE.var?, Tv.item, Tv.len, PyData.itemsOf, List.map_cons, List.map_nil, List.replicate, List.cons_append, List.nil_append, List.length_cons, List.length_nil, List.set_cons_zero, List.set_cons_succ, List.getElem?_cons_zero, List.getElem?_cons_succ, Option.join_some, Option.some.injEq, Option.map_some, exists_eq', exists_eq, exists_eq_left', exists_eq_left, exists_and_left, Option.bind_some, Option.bind_eq_bind, Option.pure_def, wipeR, restR, keepD, Tv.d.injEq, Tv.own.injEq, PyData.int.injEq, PyData.bool.injEq, PyData.tuple.injEq, PyData.list.injEq, PyData.str.injEq, List.cons.injEq, and_true, if_tt, if_ff, Option.bind_none, Option.getD_none, Option.getD_some, Int.sub_zero, Int.zero_add, and_assoc, true_and, exists_const, Nat.reduceAdd, Nat.reduceLT, Nat.reduceSub, Nat.zero_add]
  refine ⟨fun i acc ρ => acc = ((List.range i).map fun i => PyData.tuple (rowD pr.toNat (f i))).map Tv.d ∧ ρ = [some (.scr ns), some (deck a b c), some (.d (.int (k : Nat))), some (.d (planD pr pk ss)), none, some (.d (.str S)), some (.d (.list (matD pr.toNat f))), none, none, none, none], ⟨rfl, rfl⟩, ?_, ?_⟩
  · rintro i y acc ρ2 hy ⟨rfl, rfl⟩
    have hi := (List.getElem?_eq_some_iff.mp hy).1
    unfold matD at hy hi
    rw [List.length_map, List.length_range] at hi
    rw [List.getElem?_map, List.getElem?_range hi] at hy
    cases hy
    simp only [List.length_map, List.length_range, b_tupleL, r_nil, r_cons, r_set, r_unp, r_par, r_ix1, r_ix2, r_ixp, r_ixe, r_app, r_ext, r_expr, r_ret, r_retv, r_retN, r_if, r_for, r_while, r_pass, r_brk, r_cont, q_sim, q_bin, q_neg, q_cmp, q_isN, q_notN, q_chain, q_and, q_or, q_and1, q_and2, q_or1, q_or2, q_not, q_ite, q_tup, q_lst, q_idx, q_slice, q_rev, q_blt1, q_bltv, q_blt2, q_sortset, q_lrng, q_lc, q_pop, q_index, q_es0, q_es1, q_o0, q_o1, q_c0, q_c1, q_seq, q_rng, q_enum, q_zip, g_name, g_tup, g_t0, g_t1, o_add, o_sub, o_mul, o_fdiv, o_mod, o_pow, f_d, f_nil, c_lt, c_le, c_gt, c_ge, c_eq, c_ne, at0, at1, at2, ix0, ix1, ix2, v_var, v_int, v_str, v_bl, v_non, v_glob, v_add, v_sub, v_neg, v_idx, v_len, onV_d, onV_scr, onW_d, onW_scr, onW_own, simR, sv, frzT, E.sim?, E.var?, SE.var?, Tv.item, Tv.len, PyData.itemsOf, List.map_cons, List.map_nil, List.replicate, List.cons_append, List.nil_append, List.length_cons, List.length_nil, List.set_cons_zero, List.set_cons_succ, List.getElem?_cons_zero, List.getElem?_cons_succ, Option.join_some, Option.some.injEq, Option.map_some, exists_eq', exists_eq, exists_eq_left', exists_eq_left, exists_and_left, Option.bind_some, Option.bind_eq_bind, Option.pure_def, wipeR, restR, keepD, Tv.d.injEq, Tv.own.injEq, PyData.int.injEq, PyData.bool.injEq, PyData.tuple.injEq, PyData.list.injEq, PyData.str.injEq, List.cons.injEq, and_true, if_tt, if_ff, Option.bind_none, Option.getD_none, Option.getD_some, Int.sub_zero, Int.zero_add, and_assoc, true_and, exists_const, Nat.reduceAdd, Nat.reduceLT, Nat.reduceSub, Nat.zero_add]
    refine ⟨fun _ => ⟨small64 (by omega), ?_⟩, fun z => (nomatch z)⟩
    rw [List.range_succ, List.map_append, List.map_append]
    rfl
  rintro acc ρ2 ⟨rfl, rfl⟩
  have e : (matD pr.toNat f).length = pr.toNat := by
    unfold matD
    rw [List.length_map, List.length_range]
  rw [e]
  simp only [b_tuple, r_nil, r_set, r_unp, r_par, r_ix1, r_ix2, r_ixp, r_ixe, r_app, r_ext, r_expr, r_ret, r_retv, r_retN, r_if, r_for, r_while, r_pass, r_brk, r_cont, q_sim, q_bin, q_neg, q_cmp, q_isN, q_notN, q_chain, q_and, q_or, q_and1, q_and2, q_or1, q_or2, q_not, q_ite, q_tup, q_lst, q_idx, q_slice, q_rev, q_blt1, q_bltv, q_blt2, q_sortset, q_lrng, q_lc, q_pop, q_index, q_es0, q_es1, q_o0, q_o1, q_c0, q_c1, q_seq, q_rng, q_enum, q_zip, g_name, g_tup, g_t0, g_t1, o_add, o_sub, o_mul, o_fdiv, o_mod, o_pow, f_d, f_nil, c_lt, c_le, c_gt, c_ge, c_eq, c_ne, at0, at1, at2, ix0, ix1, ix2, v_var, v_int, v_str, v_bl, v_non, v_glob, v_add, v_sub, v_neg, v_idx, v_len, onV_d, onV_scr, onW_d, onW_scr, onW_own, simR, sv, frzT, E.sim?, E.var?, SE.var?, Tv.item, Tv.len, PyData.itemsOf, List.map_cons, List.map_nil, List.replicate, List.cons_append, List.nil_append, List.length_cons, List.length_nil, List.set_cons_zero, List.set_cons_succ, List.getElem?_cons_zero, List.getElem?_cons_succ, Option.join_some, Option.some.injEq, Option.map_some, exists_eq', exists_eq, exists_eq_left', exists_eq_left, exists_and_left, Option.bind_some, Option.bind_eq_bind, Option.pure_def, wipeR, restR, keepD, Tv.d.injEq, Tv.own.injEq, PyData.int.injEq, PyData.bool.injEq, PyData.tuple.injEq, PyData.list.injEq, PyData.str.injEq, List.cons.injEq, and_true, if_tt, if_ff, Option.bind_none, Option.getD_none, Option.getD_some, Int.sub_zero, Int.zero_add, and_assoc, true_and, exists_const, Nat.reduceAdd, Nat.reduceLT, Nat.reduceSub, Nat.zero_add]
  refine ⟨[tabD pr.toNat f], fo1, by decide, by decide, by rw [sizeLine_eq]; exact (by decide : 1 * Int.toNat 2 ≤ 16777216), ?_⟩
  refine b_repr (d := .list [tabD pr.toNat f, tabD pr.toNat f]) fo2 rfl okT (c_neStr ?_)
  simp only [beq_self_eq_true, Bool.not_true, r_nil, r_set, r_unp, r_par, r_ix1, r_ix2, r_ixp, r_ixe, r_app, r_ext, r_expr, r_ret, r_retv, r_retN, r_if, r_for, r_while, r_pass, r_brk, r_cont, q_sim, q_bin, q_neg, q_cmp, q_isN, q_notN, q_chain, q_and, q_or, q_and1, q_and2, q_or1, q_or2, q_not, q_ite, q_tup, q_lst, q_idx, q_slice, q_rev, q_blt1, q_bltv, q_blt2, q_sortset, q_lrng, q_lc, q_pop, q_index, q_es0, q_es1, q_o0, q_o1, q_c0, q_c1, q_seq, q_rng, q_enum, q_zip, g_name, g_tup, g_t0, g_t1, o_add, o_sub, o_mul, o_fdiv, o_mod, o_pow, f_d, f_nil, c_lt, c_le, c_gt, c_ge, c_eq, c_ne, at0, at1, at2, ix0, ix1, ix2, v_var, v_int, v_str, v_bl, v_non, v_glob, v_add, v_sub, v_neg, v_idx, v_len, onV_d, onV_scr, onW_d, onW_scr, onW_own, simR, sv, frzT, E.sim?, E.var?, SE.var?, Tv.item, Tv.len, PyData.itemsOf, List.map_cons, List.map_nil, List.replicate, List.cons_append, List.nil_append, List.length_cons, List.length_nil, List.set_cons_zero, List.set_cons_succ, List.getElem?_cons_zero, List.getElem?_cons_succ, Option.join_some, Option.some.injEq, Option.map_some, exists_eq', exists_eq, exists_eq_left', exists_eq_left, exists_and_left, Option.bind_some, Option.bind_eq_bind, Option.pure_def, wipeR, restR, keepD, Tv.d.injEq, Tv.own.injEq, PyData.int.injEq, PyData.bool.injEq, PyData.tuple.injEq, PyData.list.injEq, PyData.str.injEq, List.cons.injEq, and_true, if_tt, if_ff, Option.bind_none, Option.getD_none, Option.getD_some, Int.sub_zero, Int.zero_add, and_assoc, true_and, exists_const, Nat.reduceAdd, Nat.reduceLT, Nat.reduceSub, Nat.zero_add]
  exact hR2
end
theorem ok_law09 {Γ : Gam} {Φ : Phi} (hD : Φ "_law_deck" = some feDeck3) (hN : Φ "_law_plan" = some fePlan3) (hL : Φ "_law_table" = some feLawTable) (hT : Φ "table" = some feTable) (hC : Φ "compared" = some feCompared) (hW : Φ "_law_two" = some feTwo) :
    ∀ xs Q, spLaw xs Q → fsOf Γ Φ 1 11 bLaw09 xs Q := by
  rintro xs Q ⟨ns, rfl, hq⟩
  refine ⟨rfl, ?_⟩
  rw [bLaw09, r_cons]
  simp only [q_call hD rfl, argTs, argT, feDeck3, r_nil, r_set, r_unp, r_par, r_ix1, r_ix2, r_ixp, r_ixe, r_app, r_ext, r_expr, r_ret, r_retv, r_retN, r_if, r_for, r_while, r_pass, r_brk, r_cont, q_sim, q_bin, q_neg, q_cmp, q_isN, q_notN, q_chain, q_and, q_or, q_and1, q_and2, q_or1, q_or2, q_not, q_ite, q_tup, q_lst, q_idx, q_slice, q_rev, q_blt1, q_bltv, q_blt2, q_sortset, q_lrng, q_lc, q_pop, q_index, q_es0, q_es1, q_o0, q_o1, q_c0, q_c1, q_seq, q_rng, q_enum, q_zip, g_name, g_tup, g_t0, g_t1, o_add, o_sub, o_mul, o_fdiv, o_mod, o_pow, f_d, f_nil, c_lt, c_le, c_gt, c_ge, c_eq, c_ne, at0, at1, at2, ix0, ix1, ix2, v_var, v_int, v_str, v_bl, v_non, v_glob, v_add, v_sub, v_neg, v_idx, v_len, onV_d, onV_scr, onW_d, onW_scr, onW_own, simR, sv, frzT, E.sim?, E.var?, SE.var?, Tv.item, Tv.len, PyData.itemsOf, List.map_cons, List.map_nil, List.replicate, List.cons_append, List.nil_append, List.length_cons, List.length_nil, List.set_cons_zero, List.set_cons_succ, List.getElem?_cons_zero, List.getElem?_cons_succ, Option.join_some, Option.some.injEq, Option.map_some, exists_eq', exists_eq, exists_eq_left', exists_eq_left, exists_and_left, Option.bind_some, Option.bind_eq_bind, Option.pure_def, wipeR, restR, keepD, Tv.d.injEq, Tv.own.injEq, PyData.int.injEq, PyData.bool.injEq, PyData.tuple.injEq, PyData.list.injEq, PyData.str.injEq, List.cons.injEq, and_true, if_tt, if_ff, Option.bind_none, Option.getD_none, Option.getD_some, Int.sub_zero, Int.zero_add, and_assoc, true_and, exists_const, Nat.reduceAdd, Nat.reduceLT, Nat.reduceSub, Nat.zero_add]
  refine ⟨ns, rfl, fun a b c rest => ?_⟩
  simp only [r_nil, r_set, r_unp, r_par, r_ix1, r_ix2, r_ixp, r_ixe, r_app, r_ext, r_expr, r_ret, r_retv, r_retN, r_if, r_for, r_while, r_pass, r_brk, r_cont, q_sim, q_bin, q_neg, q_cmp, q_isN, q_notN, q_chain, q_and, q_or, q_and1, q_and2, q_or1, q_or2, q_not, q_ite, q_tup, q_lst, q_idx, q_slice, q_rev, q_blt1, q_bltv, q_blt2, q_sortset, q_lrng, q_lc, q_pop, q_index, q_es0, q_es1, q_o0, q_o1, q_c0, q_c1, q_seq, q_rng, q_enum, q_zip, g_name, g_tup, g_t0, g_t1, o_add, o_sub, o_mul, o_fdiv, o_mod, o_pow, f_d, f_nil, c_lt, c_le, c_gt, c_ge, c_eq, c_ne, at0, at1, at2, ix0, ix1, ix2, v_var, v_int, v_str, v_bl, v_non, v_glob, v_add, v_sub, v_neg, v_idx, v_len, onV_d, onV_scr, onW_d, onW_scr, onW_own, simR, sv, frzT, E.sim?, E.var?, SE.var?, Tv.item, Tv.len, PyData.itemsOf, List.map_cons, List.map_nil, List.replicate, List.cons_append, List.nil_append, List.length_cons, List.length_nil, List.set_cons_zero, List.set_cons_succ, List.getElem?_cons_zero, List.getElem?_cons_succ, Option.join_some, Option.some.injEq, Option.map_some, exists_eq', exists_eq, exists_eq_left', exists_eq_left, exists_and_left, Option.bind_some, Option.bind_eq_bind, Option.pure_def, wipeR, restR, keepD, Tv.d.injEq, Tv.own.injEq, PyData.int.injEq, PyData.bool.injEq, PyData.tuple.injEq, PyData.list.injEq, PyData.str.injEq, List.cons.injEq, and_true, if_tt, if_ff, Option.bind_none, Option.getD_none, Option.getD_some, Int.sub_zero, Int.zero_add, and_assoc, true_and, exists_const, Nat.reduceAdd, Nat.reduceLT, Nat.reduceSub, Nat.zero_add]
  rw [r_cons]
  simp only [r_nil, r_set, r_unp, r_par, r_ix1, r_ix2, r_ixp, r_ixe, r_app, r_ext, r_expr, r_ret, r_retv, r_retN, r_if, r_for, r_while, r_pass, r_brk, r_cont, q_sim, q_bin, q_neg, q_cmp, q_isN, q_notN, q_chain, q_and, q_or, q_and1, q_and2, q_or1, q_or2, q_not, q_ite, q_tup, q_lst, q_idx, q_slice, q_rev, q_blt1, q_bltv, q_blt2, q_sortset, q_lrng, q_lc, q_pop, q_index, q_es0, q_es1, q_o0, q_o1, q_c0, q_c1, q_seq, q_rng, q_enum, q_zip, g_name, g_tup, g_t0, g_t1, o_add, o_sub, o_mul, o_fdiv, o_mod, o_pow, f_d, f_nil, c_lt, c_le, c_gt, c_ge, c_eq, c_ne, at0, at1, at2, ix0, ix1, ix2, v_var, v_int, v_str, v_bl, v_non, v_glob, v_add, v_sub, v_neg, v_idx, v_len, onV_d, onV_scr, onW_d, onW_scr, onW_own, simR, sv, frzT, E.sim?, E.var?, SE.var?, Tv.item, Tv.len, PyData.itemsOf, List.map_cons, List.map_nil, List.replicate, List.cons_append, List.nil_append, List.length_cons, List.length_nil, List.set_cons_zero, List.set_cons_succ, List.getElem?_cons_zero, List.getElem?_cons_succ, Option.join_some, Option.some.injEq, Option.map_some, exists_eq', exists_eq, exists_eq_left', exists_eq_left, exists_and_left, Option.bind_some, Option.bind_eq_bind, Option.pure_def, wipeR, restR, keepD, Tv.d.injEq, Tv.own.injEq, PyData.int.injEq, PyData.bool.injEq, PyData.tuple.injEq, PyData.list.injEq, PyData.str.injEq, List.cons.injEq, and_true, if_tt, if_ff, Option.bind_none, Option.getD_none, Option.getD_some, Int.sub_zero, Int.zero_add, and_assoc, true_and, exists_const, Nat.reduceAdd, Nat.reduceLT, Nat.reduceSub, Nat.zero_add]
  refine ⟨by decide, by decide, by decide, by decide, fun k ρ => ∃ a b c, ρ = [some (.scr ns), some (deck a b c), none, none, none, none, none, none, none, none, none], ⟨a, b, c, rfl⟩, ?_, ?_⟩
  · rintro k x ρ2 hx ⟨a, b, c, rfl⟩
    have hk := (List.getElem?_eq_some_iff.mp hx).1
    simp only [List.length_map, List.length_range] at hk
    simp only [List.getElem?_map, List.getElem?_range hk, Option.map_some, Option.some.injEq] at hx
    subst hx
    simp only [r_nil, r_set, r_unp, r_par, r_ix1, r_ix2, r_ixp, r_ixe, r_app, r_ext, r_expr, r_ret, r_retv, r_retN, r_if, r_for, r_while, r_pass, r_brk, r_cont, q_sim, q_bin, q_neg, q_cmp, q_isN, q_notN, q_chain, q_and, q_or, q_and1, q_and2, q_or1, q_or2, q_not, q_ite, q_tup, q_lst, q_idx, q_slice, q_rev, q_blt1, q_bltv, q_blt2, q_sortset, q_lrng, q_lc, q_pop, q_index, q_es0, q_es1, q_o0, q_o1, q_c0, q_c1, q_seq, q_rng, q_enum, q_zip, g_name, g_tup, g_t0, g_t1, o_add, o_sub, o_mul, o_fdiv, o_mod, o_pow, f_d, f_nil, c_lt, c_le, c_gt, c_ge, c_eq, c_ne, at0, at1, at2, ix0, ix1, ix2, v_var, v_int, v_str, v_bl, v_non, v_glob, v_add, v_sub, v_neg, v_idx, v_len, onV_d, onV_scr, onW_d, onW_scr, onW_own, simR, sv, frzT, E.sim?, E.var?, SE.var?, Tv.item, Tv.len, PyData.itemsOf, List.map_cons, List.map_nil, List.replicate, List.cons_append, List.nil_append, List.length_cons, List.length_nil, List.set_cons_zero, List.set_cons_succ, List.getElem?_cons_zero, List.getElem?_cons_succ, Option.join_some, Option.some.injEq, Option.map_some, exists_eq', exists_eq, exists_eq_left', exists_eq_left, exists_and_left, Option.bind_some, Option.bind_eq_bind, Option.pure_def, wipeR, restR, keepD, Tv.d.injEq, Tv.own.injEq, PyData.int.injEq, PyData.bool.injEq, PyData.tuple.injEq, PyData.list.injEq, PyData.str.injEq, List.cons.injEq, and_true, if_tt, if_ff, Option.bind_none, Option.getD_none, Option.getD_some, Int.sub_zero, Int.zero_add, and_assoc, true_and, exists_const, Nat.reduceAdd, Nat.reduceLT, Nat.reduceSub, Nat.zero_add]
    rw [r_cons]
    simp only [q_callO hN rfl, args1, fePlan3, r_nil, r_set, r_unp, r_par, r_ix1, r_ix2, r_ixp, r_ixe, r_app, r_ext, r_expr, r_ret, r_retv, r_retN, r_if, r_for, r_while, r_pass, r_brk, r_cont, q_sim, q_bin, q_neg, q_cmp, q_isN, q_notN, q_chain, q_and, q_or, q_and1, q_and2, q_or1, q_or2, q_not, q_ite, q_tup, q_lst, q_idx, q_slice, q_rev, q_blt1, q_bltv, q_blt2, q_sortset, q_lrng, q_lc, q_pop, q_index, q_es0, q_es1, q_o0, q_o1, q_c0, q_c1, q_seq, q_rng, q_enum, q_zip, g_name, g_tup, g_t0, g_t1, o_add, o_sub, o_mul, o_fdiv, o_mod, o_pow, f_d, f_nil, c_lt, c_le, c_gt, c_ge, c_eq, c_ne, at0, at1, at2, ix0, ix1, ix2, v_var, v_int, v_str, v_bl, v_non, v_glob, v_add, v_sub, v_neg, v_idx, v_len, onV_d, onV_scr, onW_d, onW_scr, onW_own, simR, sv, frzT, E.sim?, E.var?, SE.var?, Tv.item, Tv.len, PyData.itemsOf, List.map_cons, List.map_nil, List.replicate, List.cons_append, List.nil_append, List.length_cons, List.length_nil, List.set_cons_zero, List.set_cons_succ, List.getElem?_cons_zero, List.getElem?_cons_succ, Option.join_some, Option.some.injEq, Option.map_some, exists_eq', exists_eq, exists_eq_left', exists_eq_left, exists_and_left, Option.bind_some, Option.bind_eq_bind, Option.pure_def, wipeR, restR, keepD, Tv.d.injEq, Tv.own.injEq, PyData.int.injEq, PyData.bool.injEq, PyData.tuple.injEq, PyData.list.injEq, PyData.str.injEq, List.cons.injEq, and_true, if_tt, if_ff, Option.bind_none, Option.getD_none, Option.getD_some, Int.sub_zero, Int.zero_add, and_assoc, true_and, exists_const, Nat.reduceAdd, Nat.reduceLT, Nat.reduceSub, Nat.zero_add]
    refine if_l (fun _ => ⟨_, rfl, a, b, c, _, rfl, by decide, by decide, fun pr pk ss a b c rest hP => ?_⟩) fun _ => ⟨_, rfl, a, b, c, _, rfl, by decide, by decide, fun pr pk ss a b c rest hP => ?_⟩
    all_goals
      simp only [r_nil, r_set, r_unp, r_par, r_ix1, r_ix2, r_ixp, r_ixe, r_app, r_ext, r_expr, r_ret, r_retv, r_retN, r_if, r_for, r_while, r_pass, r_brk, r_cont, q_sim, q_bin, q_neg, q_cmp, q_isN, q_notN, q_chain, q_and, q_or, q_and1, q_and2, q_or1, q_or2, q_not, q_ite, q_tup, q_lst, q_idx, q_slice, q_rev, q_blt1, q_bltv, q_blt2, q_sortset, q_lrng, q_lc, q_pop, q_index, q_es0, q_es1, q_o0, q_o1, q_c0, q_c1, q_seq, q_rng, q_enum, q_zip, g_name, g_tup, g_t0, g_t1, o_add, o_sub, o_mul, o_fdiv, o_mod, o_pow, f_d, f_nil, c_lt, c_le, c_gt, c_ge, c_eq, c_ne, at0, at1, at2, ix0, ix1, ix2, v_var, v_int, v_str, v_bl, v_non, v_glob, v_add, v_sub, v_neg, v_idx, v_len, onV_d, onV_scr, onW_d, onW_scr, onW_own, simR, sv, frzT, E.sim?, E.var?, SE.var?, Tv.item, Tv.len, PyData.itemsOf, List.map_cons, List.map_nil, List.replicate, List.cons_append, List.nil_append, List.length_cons, List.length_nil, List.set_cons_zero, List.set_cons_succ, List.getElem?_cons_zero, List.getElem?_cons_succ, Option.join_some, Option.some.injEq, Option.map_some, exists_eq', exists_eq, exists_eq_left', exists_eq_left, exists_and_left, Option.bind_some, Option.bind_eq_bind, Option.pure_def, wipeR, restR, keepD, Tv.d.injEq, Tv.own.injEq, PyData.int.injEq, PyData.bool.injEq, PyData.tuple.injEq, PyData.list.injEq, PyData.str.injEq, List.cons.injEq, and_true, if_tt, if_ff, Option.bind_none, Option.getD_none, Option.getD_some, Int.sub_zero, Int.zero_add, and_assoc, true_and, exists_const, Nat.reduceAdd, Nat.reduceLT, Nat.reduceSub, Nat.zero_add]
      rw [r_cons]
      simp only [q_call hL rfl, args1, feLawTable, r_nil, r_set, r_unp, r_par, r_ix1, r_ix2, r_ixp, r_ixe, r_app, r_ext, r_expr, r_ret, r_retv, r_retN, r_if, r_for, r_while, r_pass, r_brk, r_cont, q_sim, q_bin, q_neg, q_cmp, q_isN, q_notN, q_chain, q_and, q_or, q_and1, q_and2, q_or1, q_or2, q_not, q_ite, q_tup, q_lst, q_idx, q_slice, q_rev, q_blt1, q_bltv, q_blt2, q_sortset, q_lrng, q_lc, q_pop, q_index, q_es0, q_es1, q_o0, q_o1, q_c0, q_c1, q_seq, q_rng, q_enum, q_zip, g_name, g_tup, g_t0, g_t1, o_add, o_sub, o_mul, o_fdiv, o_mod, o_pow, f_d, f_nil, c_lt, c_le, c_gt, c_ge, c_eq, c_ne, at0, at1, at2, ix0, ix1, ix2, v_var, v_int, v_str, v_bl, v_non, v_glob, v_add, v_sub, v_neg, v_idx, v_len, onV_d, onV_scr, onW_d, onW_scr, onW_own, simR, sv, frzT, E.sim?, E.var?, SE.var?, Tv.item, Tv.len, PyData.itemsOf, List.map_cons, List.map_nil, List.replicate, List.cons_append, List.nil_append, List.length_cons, List.length_nil, List.set_cons_zero, List.set_cons_succ, List.getElem?_cons_zero, List.getElem?_cons_succ, Option.join_some, Option.some.injEq, Option.map_some, exists_eq', exists_eq, exists_eq_left', exists_eq_left, exists_and_left, Option.bind_some, Option.bind_eq_bind, Option.pure_def, wipeR, restR, keepD, Tv.d.injEq, Tv.own.injEq, PyData.int.injEq, PyData.bool.injEq, PyData.tuple.injEq, PyData.list.injEq, PyData.str.injEq, List.cons.injEq, and_true, if_tt, if_ff, Option.bind_none, Option.getD_none, Option.getD_some, Int.sub_zero, Int.zero_add, and_assoc, true_and, exists_const, Nat.reduceAdd, Nat.reduceLT, Nat.reduceSub, Nat.zero_add]
      refine b_repr rfl rfl (show_plan hP) ?_
      refine ⟨pr, pk, ss, rfl, hP, fun rest => ?_⟩
      simp only [List.zip_cons_cons, List.zip_nil_right, List.foldl_cons, List.foldl_nil, r_nil, r_set, r_unp, r_par, r_ix1, r_ix2, r_ixp, r_ixe, r_app, r_ext, r_expr, r_ret, r_retv, r_retN, r_if, r_for, r_while, r_pass, r_brk, r_cont, q_sim, q_bin, q_neg, q_cmp, q_isN, q_notN, q_chain, q_and, q_or, q_and1, q_and2, q_or1, q_or2, q_not, q_ite, q_tup, q_lst, q_idx, q_slice, q_rev, q_blt1, q_bltv, q_blt2, q_sortset, q_lrng, q_lc, q_pop, q_index, q_es0, q_es1, q_o0, q_o1, q_c0, q_c1, q_seq, q_rng, q_enum, q_zip, g_name, g_tup, g_t0, g_t1, o_add, o_sub, o_mul, o_fdiv, o_mod, o_pow, f_d, f_nil, c_lt, c_le, c_gt, c_ge, c_eq, c_ne, at0, at1, at2, ix0, ix1, ix2, v_var, v_int, v_str, v_bl, v_non, v_glob, v_add, v_sub, v_neg, v_idx, v_len, onV_d, onV_scr, onW_d, onW_scr, onW_own, simR, sv, frzT, E.sim?, E.var?, SE.var?, Tv.item, Tv.len, PyData.itemsOf, List.map_cons, List.map_nil, List.replicate, List.cons_append, List.nil_append, List.length_cons, List.length_nil, List.set_cons_zero, List.set_cons_succ, List.getElem?_cons_zero, List.getElem?_cons_succ, Option.join_some, Option.some.injEq, Option.map_some, exists_eq', exists_eq, exists_eq_left', exists_eq_left, exists_and_left, Option.bind_some, Option.bind_eq_bind, Option.pure_def, wipeR, restR, keepD, Tv.d.injEq, Tv.own.injEq, PyData.int.injEq, PyData.bool.injEq, PyData.tuple.injEq, PyData.list.injEq, PyData.str.injEq, List.cons.injEq, and_true, if_tt, if_ff, Option.bind_none, Option.getD_none, Option.getD_some, Int.sub_zero, Int.zero_add, and_assoc, true_and, exists_const, Nat.reduceAdd, Nat.reduceLT, Nat.reduceSub, Nat.zero_add]
      refine ⟨by decide, by decide, ?_⟩
      refine ok_9R1 hT hC hW hP rfl fun a b c x6 => ?_
      exact ⟨_, _, _, rfl⟩
  · rintro ρ2 ⟨a, b, c, rfl⟩
    simp only [r_nil, r_cons, r_set, r_unp, r_par, r_ix1, r_ix2, r_ixp, r_ixe, r_app, r_ext, r_expr, r_ret, r_retv, r_retN, r_if, r_for, r_while, r_pass, r_brk, r_cont, q_sim, q_bin, q_neg, q_cmp, q_isN, q_notN, q_chain, q_and, q_or, q_and1, q_and2, q_or1, q_or2, q_not, q_ite, q_tup, q_lst, q_idx, q_slice, q_rev, q_blt1, q_bltv, q_blt2, q_sortset, q_lrng, q_lc, q_pop, q_index, q_es0, q_es1, q_o0, q_o1, q_c0, q_c1, q_seq, q_rng, q_enum, q_zip, g_name, g_tup, g_t0, g_t1, o_add, o_sub, o_mul, o_fdiv, o_mod, o_pow, f_d, f_nil, c_lt, c_le, c_gt, c_ge, c_eq, c_ne, at0, at1, at2, ix0, ix1, ix2, v_var, v_int, v_str, v_bl, v_non, v_glob, v_add, v_sub, v_neg, v_idx, v_len, onV_d, onV_scr, onW_d, onW_scr, onW_own, simR, sv, frzT, E.sim?, E.var?, SE.var?, Tv.item, Tv.len, PyData.itemsOf, List.map_cons, List.map_nil, List.replicate, List.cons_append, List.nil_append, List.length_cons, List.length_nil, List.set_cons_zero, List.set_cons_succ, List.getElem?_cons_zero, List.getElem?_cons_succ, Option.join_some, Option.some.injEq, Option.map_some, exists_eq', exists_eq, exists_eq_left', exists_eq_left, exists_and_left, Option.bind_some, Option.bind_eq_bind, Option.pure_def, wipeR, restR, keepD, Tv.d.injEq, Tv.own.injEq, PyData.int.injEq, PyData.bool.injEq, PyData.tuple.injEq, PyData.list.injEq, PyData.str.injEq, List.cons.injEq, and_true, if_tt, if_ff, Option.bind_none, Option.getD_none, Option.getD_some, Int.sub_zero, Int.zero_add, and_assoc, true_and, exists_const, Nat.reduceAdd, Nat.reduceLT, Nat.reduceSub, Nat.zero_add]
    exact hq _
end Tr
set_option Elab.async false
set_option linter.all false
set_option maxRecDepth 100000
set_option maxHeartbeats 4000000
namespace K09
open PySem PySem.Spec PyProof.Rows L2 Tr
def topS (i : Nat) : Stmt := PySem.Challenge.pw_evenpacks_k09_comparisons.main.body.getD i (.Pass ⟨0, 0, 0, 0⟩)
abbrev s1 : Stmt := topS 1
abbrev s2 : Stmt := topS 2
abbrev s4 : Stmt := topS 4
abbrev s5 : Stmt := topS 5
abbrev s6 : Stmt := topS 6
abbrev s7 : Stmt := topS 7
abbrev s9 : Stmt := topS 9
abbrev s10 : Stmt := topS 10
abbrev s11 : Stmt := topS 11
abbrev s12 : Stmt := topS 12
abbrev s13 : Stmt := topS 13
abbrev s14 : Stmt := topS 14
abbrev s15 : Stmt := topS 15
abbrev s16 : Stmt := topS 16
abbrev s17 : Stmt := topS 17
abbrev s18 : Stmt := topS 18
abbrev s19 : Stmt := topS 19
abbrev s20 : Stmt := topS 20
def n1 : List Str := ["plan", "found", "turn", "north", "east", "packs", "pack"]
def n2 : List Str := ["plan", "pack", "own", "north", "east"]
def n4 : List Str := ["rows", "one", "other", "many"]
def n5 : List Str := ["pairs", "own", "rows", "number", "pair", "north", "east", "norther", "easter"]
def n6 : List Str := ["plan", "whole", "pack", "rows", "pair", "row", "one", "other", "a", "b"]
def n7 : List Str := ["plan", "one", "other"]
def n9 : List Str := ["_law_script", "_law_cell", "_law_great", "_law_small"]
def n10 : List Str := ["_law_deck_here", "_law_many", "_law_mixed", "_law_digit"]
def n11 : List Str := ["_law_sitting", "_law_others", "_law_other", "_law_pack"]
def n12 : List Str := ["_law_deck_here", "_law_most", "_law_turn", "_law_pairs", "_law_packs", "_law_found", "_law_north", "_law_east", "_law_some", "_law_sitting", "_law_again"]
def n13 : List Str := ["_law_size", "_law_shift", "_law_turn", "_law_last", "_law_found", "_law_step", "_law_sides"]
def n14 : List Str := ["_law_size", "_law_many", "_law_found", "_law_turn", "_law_north"]
def n15 : List Str := ["_law_deck_here", "_law_most", "_law_sort", "_law_plan_here", "_law_sittings", "_law_size", "_law_own"]
def n16 : List Str := ["_law_plan_here", "_law_found", "_law_turn", "_law_north", "_law_east", "_law_packs", "_law_pack"]
def n17 : List Str := ["_law_plan_here", "_law_pack", "_law_own", "_law_rows", "_law_one", "_law_other", "_law_pair", "_law_some", "_law_north", "_law_east", "_law_here", "_law_there", "_law_play"]
def n18 : List Str := ["_law_plan_here", "_law_rows", "_law_pack", "_law_pair", "_law_one", "_law_other", "_law_a", "_law_b"]
def n19 : List Str := ["_law_deck_here", "_law_plan_here", "_law_one"]
def n20 : List Str := ["_law_script", "_law_deck_here", "_law_turn", "_law_plan_here", "_law_again", "_law_shown", "_law_due", "_law_told", "_law_one", "_law_other", "_law_row"]
theorem c1 : FnScope n1 ["plan"] (defScope s1) := ⟨rfl, rfl, rfl, by decide +kernel, rfl, by decide +kernel, by decide +kernel⟩
theorem c2 : FnScope n2 ["plan", "pack"] (defScope s2) := ⟨rfl, rfl, rfl, by decide +kernel, rfl, by decide +kernel, by decide +kernel⟩
theorem c4 : FnScope n4 ["rows", "one", "other", "many"] (defScope s4) := ⟨rfl, rfl, rfl, by decide +kernel, rfl, by decide +kernel, by decide +kernel⟩
theorem c5 : FnScope n5 ["pairs", "own"] (defScope s5) := ⟨rfl, rfl, rfl, by decide +kernel, rfl, by decide +kernel, by decide +kernel⟩
theorem c6 : FnScope n6 ["plan"] (defScope s6) := ⟨rfl, rfl, rfl, by decide +kernel, rfl, by decide +kernel, by decide +kernel⟩
theorem c7 : FnScope n7 ["plan", "one", "other"] (defScope s7) := ⟨rfl, rfl, rfl, by decide +kernel, rfl, by decide +kernel, by decide +kernel⟩
theorem c9 : FnScope n9 ["_law_script"] (defScope s9) := ⟨rfl, rfl, rfl, by decide +kernel, rfl, by decide +kernel, by decide +kernel⟩
theorem c10 : FnScope n10 ["_law_deck_here", "_law_many"] (defScope s10) := ⟨rfl, rfl, rfl, by decide +kernel, rfl, by decide +kernel, by decide +kernel⟩
theorem c11 : FnScope n11 ["_law_sitting", "_law_others"] (defScope s11) := ⟨rfl, rfl, rfl, by decide +kernel, rfl, by decide +kernel, by decide +kernel⟩
theorem c12 : FnScope n12 ["_law_deck_here", "_law_most"] (defScope s12) := ⟨rfl, rfl, rfl, by decide +kernel, rfl, by decide +kernel, by decide +kernel⟩
theorem c13 : FnScope n13 ["_law_size", "_law_shift"] (defScope s13) := ⟨rfl, rfl, rfl, by decide +kernel, rfl, by decide +kernel, by decide +kernel⟩
theorem c14 : FnScope n14 ["_law_size", "_law_many"] (defScope s14) := ⟨rfl, rfl, rfl, by decide +kernel, rfl, by decide +kernel, by decide +kernel⟩
theorem c15 : FnScope n15 ["_law_deck_here", "_law_most"] (defScope s15) := ⟨rfl, rfl, rfl, by decide +kernel, rfl, by decide +kernel, by decide +kernel⟩
theorem c16 : FnScope n16 ["_law_plan_here"] (defScope s16) := ⟨rfl, rfl, rfl, by decide +kernel, rfl, by decide +kernel, by decide +kernel⟩
theorem c17 : FnScope n17 ["_law_plan_here", "_law_pack"] (defScope s17) := ⟨rfl, rfl, rfl, by decide +kernel, rfl, by decide +kernel, by decide +kernel⟩
theorem c18 : FnScope n18 ["_law_plan_here"] (defScope s18) := ⟨rfl, rfl, rfl, by decide +kernel, rfl, by decide +kernel, by decide +kernel⟩
theorem c19 : FnScope n19 ["_law_deck_here", "_law_plan_here"] (defScope s19) := ⟨rfl, rfl, rfl, by decide +kernel, rfl, by decide +kernel, by decide +kernel⟩
theorem c20 : FnScope n20 ["_law_script"] (defScope s20) := ⟨rfl, rfl, rfl, by decide +kernel, rfl, by decide +kernel, by decide +kernel⟩
theorem o1 : okSL n1 (defScope s1) none bPlays (defBody s1) = true := by decide +kernel
theorem o2 : okSL n2 (defScope s2) none bPlaysOf (defBody s2) = true := by decide +kernel
theorem o4 : okSL n4 (defScope s4) (some 0) bAddBoth (defBody s4) = true := by decide +kernel
theorem o5 : okSL n5 (defScope s5) none bRowsOf (defBody s5) = true := by decide +kernel
theorem o6 : okSL n6 (defScope s6) none bTable (defBody s6) = true := by decide +kernel
theorem o7 : okSL n7 (defScope s7) none bCompared (defBody s7) = true := by decide +kernel
theorem o9 : okSL n9 (defScope s9) none (bDeck3 0 0) (defBody s9) = true := by decide +kernel
theorem o10 : okSL n10 (defScope s10) (some 0) bTake3 (defBody s10) = true := by decide +kernel
theorem o11 : okSL n11 (defScope s11) none bCanSit (defBody s11) = true := by decide +kernel
theorem o12 : okSL n12 (defScope s12) (some 0) bDrawn3 (defBody s12) = true := by decide +kernel
theorem o13 : okSL n13 (defScope s13) none bRing3 (defBody s13) = true := by decide +kernel
theorem o14 : okSL n14 (defScope s14) none bMoving3 (defBody s14) = true := by decide +kernel
theorem o15 : okSL n15 (defScope s15) (some 0) bPlan3 (defBody s15) = true := by decide +kernel
theorem o16 : okSL n16 (defScope s16) none bLawPlays (defBody s16) = true := by decide +kernel
theorem o17 : okSL n17 (defScope s17) none bPackTable (defBody s17) = true := by decide +kernel
theorem o18 : okSL n18 (defScope s18) none bLawTable (defBody s18) = true := by decide +kernel
theorem o19 : okSL n19 (defScope s19) (some 0) bTwo (defBody s19) = true := by decide +kernel
theorem o20 : okSL n20 (defScope s20) none bLaw09 (defBody s20) = true := by decide +kernel
end K09
set_option Elab.async false
set_option linter.all false
set_option maxRecDepth 100000
set_option maxHeartbeats 4000000
namespace K09
open PySem PySem.Spec PyProof.Rows L2 Tr
section
variable {P : Program} {w : World} {K : PySem.W.Frag} {mg : Str → Option Value} {base : Heap}
theorem law_has {f1 f2 f4 f5 f6 f7 f9 f10 f11 f12 f13 f14 f15 f16 f17 f18 f19 f20 : Addr} {d1 d2 d4 d5 d6 d7 d9 d10 d11 d12 d13 d14 d15 d16 d17 d18 d19 d20 : FuncData} (bl : ∀ x ∈ bnames, mg x = none)
    (F1 : Fun K "plays" "plays" s1 f1 d1) (m1 : mg "plays" = some (.ref f1))
    (F2 : Fun K "plays_of" "plays_of" s2 f2 d2) (m2 : mg "plays_of" = some (.ref f2))
    (F4 : Fun K "add_both" "add_both" s4 f4 d4) (m4 : mg "add_both" = some (.ref f4))
    (F5 : Fun K "rows_of" "rows_of" s5 f5 d5) (m5 : mg "rows_of" = some (.ref f5))
    (F6 : Fun K "table" "table" s6 f6 d6) (m6 : mg "table" = some (.ref f6))
    (F7 : Fun K "compared" "compared" s7 f7 d7) (m7 : mg "compared" = some (.ref f7))
    (F9 : Fun K "_law_deck" "_law_deck" s9 f9 d9) (m9 : mg "_law_deck" = some (.ref f9))
    (F10 : Fun K "_law_take" "_law_take" s10 f10 d10) (m10 : mg "_law_take" = some (.ref f10))
    (F11 : Fun K "_law_can_sit" "_law_can_sit" s11 f11 d11) (m11 : mg "_law_can_sit" = some (.ref f11))
    (F12 : Fun K "_law_drawn_plan" "_law_drawn_plan" s12 f12 d12) (m12 : mg "_law_drawn_plan" = some (.ref f12))
    (F13 : Fun K "_law_ring" "_law_ring" s13 f13 d13) (m13 : mg "_law_ring" = some (.ref f13))
    (F14 : Fun K "_law_moving" "_law_moving" s14 f14 d14) (m14 : mg "_law_moving" = some (.ref f14))
    (F15 : Fun K "_law_plan" "_law_plan" s15 f15 d15) (m15 : mg "_law_plan" = some (.ref f15))
    (F16 : Fun K "_law_plays" "_law_plays" s16 f16 d16) (m16 : mg "_law_plays" = some (.ref f16))
    (F17 : Fun K "_law_pack_table" "_law_pack_table" s17 f17 d17) (m17 : mg "_law_pack_table" = some (.ref f17))
    (F18 : Fun K "_law_table" "_law_table" s18 f18 d18) (m18 : mg "_law_table" = some (.ref f18))
    (F19 : Fun K "_law_two" "_law_two" s19 f19 d19) (m19 : mg "_law_two" = some (.ref f19))
    (F20 : Fun K "law" "law" s20 f20 d20) : GnOk P w K mg base 5 f20 d20 ["_law_script"] (liftF K none spLaw) := by
  have gl : ∀ x d, (fun _ => none : Gam) x = some d → ∃ u v, mg x = some u ∧ RelV v u ∧ ∀ G, Dq G v d := fun _ _ z => nomatch z
  have M1 : GdM (fun _ => none) (phiOf []) 0 P w K mg base := HasAll.gdm (l := []) trivial bl gl
  have H1 : Has P w K mg base 1 "plays" fePlays := has_def M1 F1 c1 o1 (fun _ z => (nomatch z)) ok_plays m1 (F1.binds fun _ _ _ _ _ _ us hl => match us, hl with | [_], _ => rfl) (fun ks hk => by
      have e : ks = (["plan"] : List Str) := by simpa using hk
      subst e
      exact fun_bk F1 fun _ _ _ _ _ _ ws as hl hk => match ws, hl with | [_], _ => by cases hk; rfl)
  have M4 : GdM (fun _ => none) (phiOf []) 0 P w K mg base := HasAll.gdm (l := []) trivial bl gl
  have H4 : Has P w K mg base 1 "add_both" feAddBoth := has_def M4 F4 c4 o4 (fun i z => by cases z; decide) ok_addBoth m4 (F4.binds fun _ _ _ _ _ _ us hl => match us, hl with | [_, _, _, _], _ => rfl) (fun _ z => nomatch z)
  have M9 : GdM (fun _ => none) (phiOf []) 0 P w K mg base := HasAll.gdm (l := []) trivial bl gl
  have H9 : Has P w K mg base 1 "_law_deck" feDeck3 := has_def M9 F9 c9 o9 (fun _ z => (nomatch z)) ok_deck3 m9 (F9.binds fun _ _ _ _ _ _ us hl => match us, hl with | [_], _ => rfl) (fun _ z => nomatch z)
  have M10 : GdM (fun _ => none) (phiOf []) 0 P w K mg base := HasAll.gdm (l := []) trivial bl gl
  have H10 : Has P w K mg base 1 "_law_take" feTake3 := has_def M10 F10 c10 o10 (fun i z => by cases z; decide) ok_take3 m10 (F10.binds fun _ _ _ _ _ _ us hl => match us, hl with | [_, _], _ => rfl) (fun _ z => nomatch z)
  have M11 : GdM (fun _ => none) (phiOf []) 0 P w K mg base := HasAll.gdm (l := []) trivial bl gl
  have H11 : Has P w K mg base 1 "_law_can_sit" feCanSit := has_def M11 F11 c11 o11 (fun _ z => (nomatch z)) ok_canSit m11 (F11.binds fun _ _ _ _ _ _ us hl => match us, hl with | [_, _], _ => rfl) (fun _ z => nomatch z)
  have M13 : GdM (fun _ => none) (phiOf []) 0 P w K mg base := HasAll.gdm (l := []) trivial bl gl
  have H13 : Has P w K mg base 1 "_law_ring" feRing3 := has_def M13 F13 c13 o13 (fun _ z => (nomatch z)) ok_ring3 m13 (F13.binds fun _ _ _ _ _ _ us hl => match us, hl with | [_, _], _ => rfl) (fun _ z => nomatch z)
  have M14 : GdM (fun _ => none) (phiOf []) 0 P w K mg base := HasAll.gdm (l := []) trivial bl gl
  have H14 : Has P w K mg base 1 "_law_moving" feMoving3 := has_def M14 F14 c14 o14 (fun _ z => (nomatch z)) ok_moving3 m14 (F14.binds fun _ _ _ _ _ _ us hl => match us, hl with | [_, _], _ => rfl) (fun _ z => nomatch z)
  have M16 : GdM (fun _ => none) (phiOf []) 0 P w K mg base := HasAll.gdm (l := []) trivial bl gl
  have H16 : Has P w K mg base 1 "_law_plays" feLawPlays := has_def M16 F16 c16 o16 (fun _ z => (nomatch z)) ok_lawPlays m16 (F16.binds fun _ _ _ _ _ _ us hl => match us, hl with | [_], _ => rfl) (fun _ z => nomatch z)
  have M2 : GdM (fun _ => none) (phiOf [("plays", fePlays)]) 1 P w K mg base := HasAll.gdm ⟨H1, trivial⟩ bl gl
  have H2 : Has P w K mg base 2 "plays_of" fePlaysOf := has_def M2 F2 c2 o2 (fun _ z => (nomatch z)) (ok_playsOf rfl) m2 (F2.binds fun _ _ _ _ _ _ us hl => match us, hl with | [_, _], _ => rfl) (fun _ z => nomatch z)
  have M5 : GdM (fun _ => none) (phiOf [("add_both", feAddBoth)]) 1 P w K mg base := HasAll.gdm ⟨H4, trivial⟩ bl gl
  have H5 : Has P w K mg base 2 "rows_of" feRowsOf := has_def M5 F5 c5 o5 (fun _ z => (nomatch z)) (ok_rowsOf rfl) m5 (F5.binds fun _ _ _ _ _ _ us hl => match us, hl with | [_, _], _ => rfl) (fun _ z => nomatch z)
  have M12 : GdM (fun _ => none) (phiOf [("_law_take", feTake3), ("_law_can_sit", feCanSit)]) 1 P w K mg base := HasAll.gdm ⟨H10, H11, trivial⟩ bl gl
  have H12 : Has P w K mg base 2 "_law_drawn_plan" feDrawn3 := has_def M12 F12 c12 o12 (fun i z => by cases z; decide) (ok_drawn3 rfl rfl) m12 (F12.binds fun _ _ _ _ _ _ us hl => match us, hl with | [_, _], _ => rfl) (fun _ z => nomatch z)
  have M17 : GdM (fun _ => none) (phiOf [("_law_plays", feLawPlays)]) 1 P w K mg base := HasAll.gdm ⟨H16, trivial⟩ bl gl
  have H17 : Has P w K mg base 2 "_law_pack_table" fePackTable := has_def M17 F17 c17 o17 (fun _ z => (nomatch z)) (ok_packTable rfl) m17 (F17.binds fun _ _ _ _ _ _ us hl => match us, hl with | [_, _], _ => rfl) (fun _ z => nomatch z)
  have M19 : GdM (fun _ => none) (phiOf [("_law_take", feTake3)]) 1 P w K mg base := HasAll.gdm ⟨H10, trivial⟩ bl gl
  have H19 : Has P w K mg base 2 "_law_two" feTwo := has_def M19 F19 c19 o19 (fun i z => by cases z; decide) (ok_two rfl) m19 (F19.binds fun _ _ _ _ _ _ us hl => match us, hl with | [_, _], _ => rfl) (fun _ z => nomatch z)
  have M6 : GdM (fun _ => none) (phiOf [("rows_of", feRowsOf), ("plays_of", fePlaysOf)]) 2 P w K mg base := HasAll.gdm ⟨H5, H2, trivial⟩ bl gl
  have H6 : Has P w K mg base 3 "table" feTable := has_def M6 F6 c6 o6 (fun _ z => (nomatch z)) (ok_table rfl rfl) m6 (F6.binds fun _ _ _ _ _ _ us hl => match us, hl with | [_], _ => rfl) (fun ks hk => by
      have e : ks = (["plan"] : List Str) := by simpa using hk
      subst e
      exact fun_bk F6 fun _ _ _ _ _ _ ws as hl hk => match ws, hl with | [_], _ => by cases hk; rfl)
  have M15 : GdM (fun _ => none) (phiOf [("_law_take", feTake3), ("_law_drawn_plan", feDrawn3), ("_law_ring", feRing3), ("_law_moving", feMoving3)]) 2 P w K mg base := HasAll.gdm ⟨H10.mono (by decide), H12, H13.mono (by decide), H14.mono (by decide), trivial⟩ bl gl
  have H15 : Has P w K mg base 3 "_law_plan" fePlan3 := has_def M15 F15 c15 o15 (fun i z => by cases z; decide) (ok_plan3 rfl rfl rfl rfl) m15 (F15.binds fun _ _ _ _ _ _ us hl => match us, hl with | [_, _], _ => rfl) (fun _ z => nomatch z)
  have M18 : GdM (fun _ => none) (phiOf [("_law_pack_table", fePackTable)]) 2 P w K mg base := HasAll.gdm ⟨H17, trivial⟩ bl gl
  have H18 : Has P w K mg base 3 "_law_table" feLawTable := has_def M18 F18 c18 o18 (fun _ z => (nomatch z)) (ok_lawTable rfl) m18 (F18.binds fun _ _ _ _ _ _ us hl => match us, hl with | [_], _ => rfl) (fun _ z => nomatch z)
  have M7 : GdM (fun _ => none) (phiOf [("table", feTable)]) 3 P w K mg base := HasAll.gdm ⟨H6, trivial⟩ bl gl
  have H7 : Has P w K mg base 4 "compared" feCompared := has_def M7 F7 c7 o7 (fun _ z => (nomatch z)) (ok_compared rfl) m7 (F7.binds fun _ _ _ _ _ _ us hl => match us, hl with | [_, _, _], _ => rfl) (fun ks hk => by
      have e : ks = (["other", "one", "plan"] : List Str) := by simpa using hk
      subst e
      exact fun_bk F7 fun _ _ _ _ _ _ ws as hl hk => match ws, hl with | [_, _, _], _ => by cases hk; rfl)
  have ML : GdM (fun _ => none) (phiOf [("_law_deck", feDeck3), ("_law_plan", fePlan3), ("_law_table", feLawTable), ("table", feTable), ("compared", feCompared), ("_law_two", feTwo)]) 4 P w K mg base := HasAll.gdm ⟨H9.mono (by decide), H15.mono (by decide), H18.mono (by decide), H6.mono (by decide), H7, H19.mono (by decide), trivial⟩ bl gl
  exact fn_ok ML F20 c20 o20 (fun _ z => nomatch z) (ok_law09 rfl rfl rfl rfl rfl rfl)
end
theorem all_mk {l : PySem.W.OpenLaw} {w : World} {K : PySem.W.Frag} {h : Heap} {mg : Str → Option Value} {fa f1 f2 f4 f5 f6 f7 f9 f10 f11 f12 f13 f14 f15 f16 f17 f18 f19 f20 : Addr} (X : K.In h) (G : h.Ns mainGlobals mg) (hfa : mg "law" = some (.ref fa))
    {e1 g1 e2 g2 e4 g4 e5 g5 e6 g6 e7 g7 e9 g9 e10 g10 e11 g11 e12 g12 e13 g13 e14 g14 e15 g15 e16 g16 e17 g17 e18 g18 e19 g19 e20 g20 : Option Addr} {t1 t2 t4 t5 t6 t7 t9 t10 t11 t12 t13 t14 t15 t16 t17 t18 t19 t20 : Array (Option Value)} {p1 q1 u1 v1 y1 z1 p2 q2 u2 v2 y2 z2 p4 q4 u4 v4 y4 z4 p5 q5 u5 v5 y5 z5 p6 q6 u6 v6 y6 z6 p7 q7 u7 v7 y7 z7 p9 q9 u9 v9 y9 z9 p10 q10 u10 v10 y10 z10 p11 q11 u11 v11 y11 z11 p12 q12 u12 v12 y12 z12 p13 q13 u13 v13 y13 z13 p14 q14 u14 v14 y14 z14 p15 q15 u15 v15 y15 z15 p16 q16 u16 v16 y16 z16 p17 q17 u17 v17 y17 z17 p18 q18 u18 v18 y18 z18 p19 q19 u19 v19 y19 z19 p20 q20 u20 v20 y20 z20 : Value}
    (a1 : PySem.W.nsIn K mainGlobals "plays" = some (some (.ref f1))) (l1 : K.lookup f1 = some ⟨p1, e1, .func (PySem.W.fnOf "plays" "plays" (defArgs s1) (defBody s1) (defScope s1) .none q1 u1 v1 g1 y1 z1), t1⟩) (b1 : PySem.W.codeIn K y1 "plays" = true) (k1 : PySem.W.keepIn K (.ref f1) = true)
    (a2 : PySem.W.nsIn K mainGlobals "plays_of" = some (some (.ref f2))) (l2 : K.lookup f2 = some ⟨p2, e2, .func (PySem.W.fnOf "plays_of" "plays_of" (defArgs s2) (defBody s2) (defScope s2) .none q2 u2 v2 g2 y2 z2), t2⟩) (b2 : PySem.W.codeIn K y2 "plays_of" = true) (k2 : PySem.W.keepIn K (.ref f2) = true)
    (a4 : PySem.W.nsIn K mainGlobals "add_both" = some (some (.ref f4))) (l4 : K.lookup f4 = some ⟨p4, e4, .func (PySem.W.fnOf "add_both" "add_both" (defArgs s4) (defBody s4) (defScope s4) .none q4 u4 v4 g4 y4 z4), t4⟩) (b4 : PySem.W.codeIn K y4 "add_both" = true) (k4 : PySem.W.keepIn K (.ref f4) = true)
    (a5 : PySem.W.nsIn K mainGlobals "rows_of" = some (some (.ref f5))) (l5 : K.lookup f5 = some ⟨p5, e5, .func (PySem.W.fnOf "rows_of" "rows_of" (defArgs s5) (defBody s5) (defScope s5) .none q5 u5 v5 g5 y5 z5), t5⟩) (b5 : PySem.W.codeIn K y5 "rows_of" = true) (k5 : PySem.W.keepIn K (.ref f5) = true)
    (a6 : PySem.W.nsIn K mainGlobals "table" = some (some (.ref f6))) (l6 : K.lookup f6 = some ⟨p6, e6, .func (PySem.W.fnOf "table" "table" (defArgs s6) (defBody s6) (defScope s6) .none q6 u6 v6 g6 y6 z6), t6⟩) (b6 : PySem.W.codeIn K y6 "table" = true) (k6 : PySem.W.keepIn K (.ref f6) = true)
    (a7 : PySem.W.nsIn K mainGlobals "compared" = some (some (.ref f7))) (l7 : K.lookup f7 = some ⟨p7, e7, .func (PySem.W.fnOf "compared" "compared" (defArgs s7) (defBody s7) (defScope s7) .none q7 u7 v7 g7 y7 z7), t7⟩) (b7 : PySem.W.codeIn K y7 "compared" = true) (k7 : PySem.W.keepIn K (.ref f7) = true)
    (a9 : PySem.W.nsIn K mainGlobals "_law_deck" = some (some (.ref f9))) (l9 : K.lookup f9 = some ⟨p9, e9, .func (PySem.W.fnOf "_law_deck" "_law_deck" (defArgs s9) (defBody s9) (defScope s9) .none q9 u9 v9 g9 y9 z9), t9⟩) (b9 : PySem.W.codeIn K y9 "_law_deck" = true) (k9 : PySem.W.keepIn K (.ref f9) = true)
    (a10 : PySem.W.nsIn K mainGlobals "_law_take" = some (some (.ref f10))) (l10 : K.lookup f10 = some ⟨p10, e10, .func (PySem.W.fnOf "_law_take" "_law_take" (defArgs s10) (defBody s10) (defScope s10) .none q10 u10 v10 g10 y10 z10), t10⟩) (b10 : PySem.W.codeIn K y10 "_law_take" = true) (k10 : PySem.W.keepIn K (.ref f10) = true)
    (a11 : PySem.W.nsIn K mainGlobals "_law_can_sit" = some (some (.ref f11))) (l11 : K.lookup f11 = some ⟨p11, e11, .func (PySem.W.fnOf "_law_can_sit" "_law_can_sit" (defArgs s11) (defBody s11) (defScope s11) .none q11 u11 v11 g11 y11 z11), t11⟩) (b11 : PySem.W.codeIn K y11 "_law_can_sit" = true) (k11 : PySem.W.keepIn K (.ref f11) = true)
    (a12 : PySem.W.nsIn K mainGlobals "_law_drawn_plan" = some (some (.ref f12))) (l12 : K.lookup f12 = some ⟨p12, e12, .func (PySem.W.fnOf "_law_drawn_plan" "_law_drawn_plan" (defArgs s12) (defBody s12) (defScope s12) .none q12 u12 v12 g12 y12 z12), t12⟩) (b12 : PySem.W.codeIn K y12 "_law_drawn_plan" = true) (k12 : PySem.W.keepIn K (.ref f12) = true)
    (a13 : PySem.W.nsIn K mainGlobals "_law_ring" = some (some (.ref f13))) (l13 : K.lookup f13 = some ⟨p13, e13, .func (PySem.W.fnOf "_law_ring" "_law_ring" (defArgs s13) (defBody s13) (defScope s13) .none q13 u13 v13 g13 y13 z13), t13⟩) (b13 : PySem.W.codeIn K y13 "_law_ring" = true) (k13 : PySem.W.keepIn K (.ref f13) = true)
    (a14 : PySem.W.nsIn K mainGlobals "_law_moving" = some (some (.ref f14))) (l14 : K.lookup f14 = some ⟨p14, e14, .func (PySem.W.fnOf "_law_moving" "_law_moving" (defArgs s14) (defBody s14) (defScope s14) .none q14 u14 v14 g14 y14 z14), t14⟩) (b14 : PySem.W.codeIn K y14 "_law_moving" = true) (k14 : PySem.W.keepIn K (.ref f14) = true)
    (a15 : PySem.W.nsIn K mainGlobals "_law_plan" = some (some (.ref f15))) (l15 : K.lookup f15 = some ⟨p15, e15, .func (PySem.W.fnOf "_law_plan" "_law_plan" (defArgs s15) (defBody s15) (defScope s15) .none q15 u15 v15 g15 y15 z15), t15⟩) (b15 : PySem.W.codeIn K y15 "_law_plan" = true) (k15 : PySem.W.keepIn K (.ref f15) = true)
    (a16 : PySem.W.nsIn K mainGlobals "_law_plays" = some (some (.ref f16))) (l16 : K.lookup f16 = some ⟨p16, e16, .func (PySem.W.fnOf "_law_plays" "_law_plays" (defArgs s16) (defBody s16) (defScope s16) .none q16 u16 v16 g16 y16 z16), t16⟩) (b16 : PySem.W.codeIn K y16 "_law_plays" = true) (k16 : PySem.W.keepIn K (.ref f16) = true)
    (a17 : PySem.W.nsIn K mainGlobals "_law_pack_table" = some (some (.ref f17))) (l17 : K.lookup f17 = some ⟨p17, e17, .func (PySem.W.fnOf "_law_pack_table" "_law_pack_table" (defArgs s17) (defBody s17) (defScope s17) .none q17 u17 v17 g17 y17 z17), t17⟩) (b17 : PySem.W.codeIn K y17 "_law_pack_table" = true) (k17 : PySem.W.keepIn K (.ref f17) = true)
    (a18 : PySem.W.nsIn K mainGlobals "_law_table" = some (some (.ref f18))) (l18 : K.lookup f18 = some ⟨p18, e18, .func (PySem.W.fnOf "_law_table" "_law_table" (defArgs s18) (defBody s18) (defScope s18) .none q18 u18 v18 g18 y18 z18), t18⟩) (b18 : PySem.W.codeIn K y18 "_law_table" = true) (k18 : PySem.W.keepIn K (.ref f18) = true)
    (a19 : PySem.W.nsIn K mainGlobals "_law_two" = some (some (.ref f19))) (l19 : K.lookup f19 = some ⟨p19, e19, .func (PySem.W.fnOf "_law_two" "_law_two" (defArgs s19) (defBody s19) (defScope s19) .none q19 u19 v19 g19 y19 z19), t19⟩) (b19 : PySem.W.codeIn K y19 "_law_two" = true) (k19 : PySem.W.keepIn K (.ref f19) = true)
    (a20 : PySem.W.nsIn K mainGlobals "law" = some (some (.ref f20))) (l20 : K.lookup f20 = some ⟨p20, e20, .func (PySem.W.fnOf "law" "law" (defArgs s20) (defBody s20) (defScope s20) .none q20 u20 v20 g20 y20 z20), t20⟩) (b20 : PySem.W.codeIn K y20 "law" = true) (k20 : PySem.W.keepIn K (.ref f20) = true)
    (x1 : PySem.W.nsIn K mainGlobals "abs" = some none)
    (x2 : PySem.W.nsIn K mainGlobals "int" = some none)
    (x3 : PySem.W.nsIn K mainGlobals "str" = some none)
    (x4 : PySem.W.nsIn K mainGlobals "repr" = some none)
    (x5 : PySem.W.nsIn K mainGlobals "tuple" = some none)
    (x6 : PySem.W.nsIn K mainGlobals "list" = some none)
    (x7 : PySem.W.nsIn K mainGlobals "sorted" = some none)
    (x8 : PySem.W.nsIn K mainGlobals "sum" = some none)
    (x9 : PySem.W.nsIn K mainGlobals "any" = some none)
    (x10 : PySem.W.nsIn K mainGlobals "all" = some none)
    (x11 : PySem.W.nsIn K mainGlobals "max" = some none)
    (x12 : PySem.W.nsIn K mainGlobals "min" = some none)
    (x13 : PySem.W.nsIn K mainGlobals "len" = some none)
    (x14 : PySem.W.nsIn K mainGlobals "range" = some none)
    (x15 : PySem.W.nsIn K mainGlobals "zip" = some none)
    (x16 : PySem.W.nsIn K mainGlobals "enumerate" = some none)
    (x17 : PySem.W.nsIn K mainGlobals "set" = some none)
    (x18 : PySem.W.nsIn K mainGlobals "isinstance" = some none)
    (x19 : PySem.W.nsIn K mainGlobals "bool" = some none) :
    ∃ fd : FuncData, (∀ (s : Shared) (v : Value), BindsTo s fd ⟨[v], []⟩ [("_law_script", v)]) ∧ ∀ base : Heap, K.In base → base.Ns mainGlobals mg → GnOk l.prog w K mg base 5 fa fd ["_law_script"] (liftF K none spLaw) := by
  have e := hfa.symm.trans (PySem.W.mg_of X G a20)
  cases e
  refine ⟨PySem.W.fnOf "law" "law" (defArgs s20) (defBody s20) (defScope s20) .none q20 u20 v20 g20 y20 z20, fun s v => .of_eq rfl, fun base _ _ => ?_⟩
  have zz : (bnames.all fun x => isNone2 (PySem.W.nsIn K mainGlobals x)) = true := by
    simp only [bnames, List.all_cons, List.all_nil, x1, x2, x3, x4, x5, x6, x7, x8, x9, x10, x11, x12, x13, x14, x15, x16, x17, x18, x19]
    rfl
  exact law_has (blt_of X G zz) (fun_mk (st := s1) l1 b1 k1) (PySem.W.mg_of X G a1) (fun_mk (st := s2) l2 b2 k2) (PySem.W.mg_of X G a2) (fun_mk (st := s4) l4 b4 k4) (PySem.W.mg_of X G a4) (fun_mk (st := s5) l5 b5 k5) (PySem.W.mg_of X G a5) (fun_mk (st := s6) l6 b6 k6) (PySem.W.mg_of X G a6) (fun_mk (st := s7) l7 b7 k7) (PySem.W.mg_of X G a7) (fun_mk (st := s9) l9 b9 k9) (PySem.W.mg_of X G a9) (fun_mk (st := s10) l10 b10 k10) (PySem.W.mg_of X G a10) (fun_mk (st := s11) l11 b11 k11) (PySem.W.mg_of X G a11) (fun_mk (st := s12) l12 b12 k12) (PySem.W.mg_of X G a12) (fun_mk (st := s13) l13 b13 k13) (PySem.W.mg_of X G a13) (fun_mk (st := s14) l14 b14 k14) (PySem.W.mg_of X G a14) (fun_mk (st := s15) l15 b15 k15) (PySem.W.mg_of X G a15) (fun_mk (st := s16) l16 b16 k16) (PySem.W.mg_of X G a16) (fun_mk (st := s17) l17 b17 k17) (PySem.W.mg_of X G a17) (fun_mk (st := s18) l18 b18 k18) (PySem.W.mg_of X G a18) (fun_mk (st := s19) l19 b19 k19) (PySem.W.mg_of X G a19) (fun_mk (st := s20) l20 b20 k20)
end K09
open PySem PySem.W PyProof.Rows
set_option maxHeartbeats 0 in
theorem PySem.Challenge.cw_evenpacks_k09_comparisons_holds : PySem.Challenge.rw_evenpacks_k09_comparisons.Holds := by
  w_on; o_law; k_head; (case hw => w_witness2)
  k_fill
  refine Tr.walk_gn (l := PySem.Challenge.rw_evenpacks_k09_comparisons) (n := 63) (k := 5) (x := "_law_script") (sp := Tr.spLaw) rfl (by decide) rfl ⟨rfl, by decide, by decide⟩ (fun w h Y => PySem.W.kIn_of Y) ?F (fun ns _ _ => ⟨ns, rfl, fun _ => rfl⟩)
  case F =>
    intro w mg fa h KX G hmg
    refine' K09.all_mk KX G hmg ?a1 ?l1 ?b1 ?k1 ?a2 ?l2 ?b2 ?k2 ?a4 ?l4 ?b4 ?k4 ?a5 ?l5 ?b5 ?k5 ?a6 ?l6 ?b6 ?k6 ?a7 ?l7 ?b7 ?k7 ?a9 ?l9 ?b9 ?k9 ?a10 ?l10 ?b10 ?k10 ?a11 ?l11 ?b11 ?k11 ?a12 ?l12 ?b12 ?k12 ?a13 ?l13 ?b13 ?k13 ?a14 ?l14 ?b14 ?k14 ?a15 ?l15 ?b15 ?k15 ?a16 ?l16 ?b16 ?k16 ?a17 ?l17 ?b17 ?k17 ?a18 ?l18 ?b18 ?k18 ?a19 ?l19 ?b19 ?k19 ?a20 ?l20 ?b20 ?k20 ?x1 ?x2 ?x3 ?x4 ?x5 ?x6 ?x7 ?x8 ?x9 ?x10 ?x11 ?x12 ?x13 ?x14 ?x15 ?x16 ?x17 ?x18 ?x19
    (case a1 => k_is); (case l1 => k_is); (case b1 => k_is); (case k1 => k_is)
    (case a2 => k_is); (case l2 => k_is); (case b2 => k_is); (case k2 => k_is)
    (case a4 => k_is); (case l4 => k_is); (case b4 => k_is); (case k4 => k_is)
    (case a5 => k_is); (case l5 => k_is); (case b5 => k_is); (case k5 => k_is)
    (case a6 => k_is); (case l6 => k_is); (case b6 => k_is); (case k6 => k_is)
    (case a7 => k_is); (case l7 => k_is); (case b7 => k_is); (case k7 => k_is)
    (case a9 => k_is); (case l9 => k_is); (case b9 => k_is); (case k9 => k_is)
    (case a10 => k_is); (case l10 => k_is); (case b10 => k_is); (case k10 => k_is)
    (case a11 => k_is); (case l11 => k_is); (case b11 => k_is); (case k11 => k_is)
    (case a12 => k_is); (case l12 => k_is); (case b12 => k_is); (case k12 => k_is)
    (case a13 => k_is); (case l13 => k_is); (case b13 => k_is); (case k13 => k_is)
    (case a14 => k_is); (case l14 => k_is); (case b14 => k_is); (case k14 => k_is)
    (case a15 => k_is); (case l15 => k_is); (case b15 => k_is); (case k15 => k_is)
    (case a16 => k_is); (case l16 => k_is); (case b16 => k_is); (case k16 => k_is)
    (case a17 => k_is); (case l17 => k_is); (case b17 => k_is); (case k17 => k_is)
    (case a18 => k_is); (case l18 => k_is); (case b18 => k_is); (case k18 => k_is)
    (case a19 => k_is); (case l19 => k_is); (case b19 => k_is); (case k19 => k_is)
    (case a20 => k_is); (case l20 => k_is); (case b20 => k_is); (case k20 => k_is)
    (case x1 => k_is); (case x2 => k_is); (case x3 => k_is); (case x4 => k_is); (case x5 => k_is); (case x6 => k_is); (case x7 => k_is); (case x8 => k_is); (case x9 => k_is); (case x10 => k_is); (case x11 => k_is); (case x12 => k_is); (case x13 => k_is); (case x14 => k_is); (case x15 => k_is); (case x16 => k_is); (case x17 => k_is); (case x18 => k_is); (case x19 => k_is)
